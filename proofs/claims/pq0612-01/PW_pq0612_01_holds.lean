import PyProof.Rows.All
import Wide.All
import OpenK.AllK
import Wide.FinOn
import PySem.Challenge.RW_pq0612_01
set_option Elab.async false
set_option maxRecDepth 100000
set_option maxHeartbeats 4000000
set_option linter.unusedVariables false
set_option compiler.extract_closed false
section
open PySem PySem.W PySem.W.X PyProof.Rows
namespace Mine
noncomputable abbrev s_k : Str := ⟨⟨[107]⟩⟩
noncomputable abbrev h_0 : Str := ⟨⟨[95,119,97,108,108]⟩⟩
noncomputable abbrev h_1 : Str := ⟨⟨[95,95,110,97,109,101,95,95]⟩⟩
noncomputable abbrev t1 : Str := ⟨⟨[108,97,122,121,99,111,114,101,46,101,114,114,111,114,115]⟩⟩
noncomputable abbrev s_self : Str := ⟨⟨[115,101,108,102]⟩⟩
noncomputable abbrev s_message : Str := ⟨⟨[109,101,115,115,97,103,101]⟩⟩
noncomputable abbrev s_place : Str := ⟨⟨[112,108,97,99,101]⟩⟩
noncomputable abbrev s_Exception : Str := ⟨⟨[69,120,99,101,112,116,105,111,110]⟩⟩
noncomputable abbrev h_2 : Str := ⟨⟨[95,95,105,110,105,116,95,95]⟩⟩
noncomputable abbrev s_LazyError : Str := ⟨⟨[76,97,122,121,69,114,114,111,114]⟩⟩
noncomputable abbrev s_ReadError : Str := ⟨⟨[82,101,97,100,69,114,114,111,114]⟩⟩
noncomputable abbrev t2 : Str := ⟨⟨[108,97,122,121,99,111,114,101,46,108,97,121,111,117,116]⟩⟩
noncomputable abbrev s_VIRTUAL : Str := ⟨⟨[86,73,82,84,85,65,76]⟩⟩
noncomputable abbrev s_virtual : Str := ⟨⟨[118,105,114,116,117,97,108]⟩⟩
noncomputable abbrev s_word : Str := ⟨⟨[119,111,114,100]⟩⟩
noncomputable abbrev s_kind : Str := ⟨⟨[107,105,110,100]⟩⟩
noncomputable abbrev s_special : Str := ⟨⟨[115,112,101,99,105,97,108]⟩⟩
noncomputable abbrev s_value : Str := ⟨⟨[118,97,108,117,101]⟩⟩
noncomputable abbrev s_is_virtual : Str := ⟨⟨[105,115,95,118,105,114,116,117,97,108]⟩⟩
noncomputable abbrev t3 : Str := ⟨⟨[108,97,122,121,99,111,114,101,46,99,117,114,115,111,114]⟩⟩
noncomputable abbrev s_CLOSING_KEYS : Str := ⟨⟨[67,76,79,83,73,78,71,95,75,69,89,83]⟩⟩
noncomputable abbrev s_in : Str := ⟨⟨[105,110]⟩⟩
noncomputable abbrev s_of : Str := ⟨⟨[111,102]⟩⟩
noncomputable abbrev s_then : Str := ⟨⟨[116,104,101,110]⟩⟩
noncomputable abbrev s_else : Str := ⟨⟨[101,108,115,101]⟩⟩
noncomputable abbrev s_CLOSING_SIGNS : Str := ⟨⟨[67,76,79,83,73,78,71,95,83,73,71,78,83]⟩⟩
noncomputable abbrev h_3 : Str := ⟨⟨[41]⟩⟩
noncomputable abbrev h_4 : Str := ⟨⟨[93]⟩⟩
noncomputable abbrev h_5 : Str := ⟨⟨[44]⟩⟩
noncomputable abbrev h_6 : Str := ⟨⟨[125]⟩⟩
noncomputable abbrev s_text : Str := ⟨⟨[116,101,120,116]⟩⟩
noncomputable abbrev h_7 : Str := ⟨⟨[46]⟩⟩
noncomputable abbrev s_full_name : Str := ⟨⟨[102,117,108,108,95,110,97,109,101]⟩⟩
noncomputable abbrev s_layout : Str := ⟨⟨[108,97,121,111,117,116]⟩⟩
noncomputable abbrev s_last : Str := ⟨⟨[108,97,115,116]⟩⟩
noncomputable abbrev s_peek : Str := ⟨⟨[112,101,101,107]⟩⟩
noncomputable abbrev s_next : Str := ⟨⟨[110,101,120,116]⟩⟩
noncomputable abbrev s_words : Str := ⟨⟨[119,111,114,100,115]⟩⟩
noncomputable abbrev s_min : Str := ⟨⟨[109,105,110]⟩⟩
noncomputable abbrev s_at : Str := ⟨⟨[97,116]⟩⟩
noncomputable abbrev s_len : Str := ⟨⟨[108,101,110]⟩⟩
noncomputable abbrev s_is_at : Str := ⟨⟨[105,115,95,97,116]⟩⟩
noncomputable abbrev s_refuse : Str := ⟨⟨[114,101,102,117,115,101]⟩⟩
noncomputable abbrev t4 : Str := ⟨⟨[32,105,115,32,109,105,115,115,105,110,103]⟩⟩
noncomputable abbrev s_told : Str := ⟨⟨[116,111,108,100]⟩⟩
noncomputable abbrev s_end : Str := ⟨⟨[101,110,100]⟩⟩
noncomputable abbrev t5 : Str := ⟨⟨[116,104,101,32,101,110,100]⟩⟩
noncomputable abbrev t6 : Str := ⟨⟨[44,32,97,116,32]⟩⟩
noncomputable abbrev s_read_one : Str := ⟨⟨[114,101,97,100,95,111,110,101]⟩⟩
noncomputable abbrev s_is_laid : Str := ⟨⟨[105,115,95,108,97,105,100]⟩⟩
noncomputable abbrev s_found : Str := ⟨⟨[102,111,117,110,100]⟩⟩
noncomputable abbrev s_want : Str := ⟨⟨[119,97,110,116]⟩⟩
noncomputable abbrev h_8 : Str := ⟨⟨[123]⟩⟩
noncomputable abbrev s_take : Str := ⟨⟨[116,97,107,101]⟩⟩
noncomputable abbrev h_9 : Str := ⟨⟨[59]⟩⟩
noncomputable abbrev s_is_end_here : Str := ⟨⟨[105,115,95,101,110,100,95,104,101,114,101]⟩⟩
noncomputable abbrev s_closes : Str := ⟨⟨[99,108,111,115,101,115]⟩⟩
noncomputable abbrev s_append : Str := ⟨⟨[97,112,112,101,110,100]⟩⟩
noncomputable abbrev t7 : Str := ⟨⟨[97,32,98,108,111,99,107,32,100,111,101,115,32,110,111,116,32,103,111,32,111,110,32,115,111]⟩⟩
noncomputable abbrev s_key : Str := ⟨⟨[107,101,121]⟩⟩
noncomputable abbrev s_is_word : Str := ⟨⟨[105,115,95,119,111,114,100]⟩⟩
noncomputable abbrev s_close_by_error : Str := ⟨⟨[99,108,111,115,101,95,98,121,95,101,114,114,111,114]⟩⟩
noncomputable abbrev s_Cursor : Str := ⟨⟨[67,117,114,115,111,114]⟩⟩
noncomputable abbrev s_behind : Str := ⟨⟨[98,101,104,105,110,100]⟩⟩
noncomputable abbrev s_is_joined : Str := ⟨⟨[105,115,95,106,111,105,110,101,100]⟩⟩
noncomputable abbrev s_block : Str := ⟨⟨[98,108,111,99,107]⟩⟩
noncomputable abbrev t8 : Str := ⟨⟨[108,97,122,121,99,111,114,101,46,110,111,100,101,115]⟩⟩
noncomputable abbrev s_nodes : Str := ⟨⟨[110,111,100,101,115]⟩⟩
noncomputable abbrev s_tuple : Str := ⟨⟨[116,117,112,108,101]⟩⟩
noncomputable abbrev s_node : Str := ⟨⟨[110,111,100,101]⟩⟩
noncomputable abbrev s_row : Str := ⟨⟨[114,111,119]⟩⟩
noncomputable abbrev t9 : Str := ⟨⟨[46,48]⟩⟩
noncomputable abbrev t10 : Str := ⟨⟨[102,97,115,116]⟩⟩
noncomputable abbrev s_rows_of : Str := ⟨⟨[114,111,119,115,95,111,102]⟩⟩
noncomputable abbrev s_Node : Str := ⟨⟨[78,111,100,101]⟩⟩
noncomputable abbrev s_name : Str := ⟨⟨[110,97,109,101]⟩⟩
noncomputable abbrev s_uses : Str := ⟨⟨[117,115,101,115]⟩⟩
noncomputable abbrev s_var : Str := ⟨⟨[118,97,114]⟩⟩
noncomputable abbrev s_Var : Str := ⟨⟨[86,97,114]⟩⟩
noncomputable abbrev s_con : Str := ⟨⟨[99,111,110]⟩⟩
noncomputable abbrev s_Con : Str := ⟨⟨[67,111,110]⟩⟩
noncomputable abbrev s_lit : Str := ⟨⟨[108,105,116]⟩⟩
noncomputable abbrev s_Lit : Str := ⟨⟨[76,105,116]⟩⟩
noncomputable abbrev s_fun : Str := ⟨⟨[102,117,110]⟩⟩
noncomputable abbrev s_arg : Str := ⟨⟨[97,114,103]⟩⟩
noncomputable abbrev s_app : Str := ⟨⟨[97,112,112]⟩⟩
noncomputable abbrev s_App : Str := ⟨⟨[65,112,112]⟩⟩
noncomputable abbrev s_is_con : Str := ⟨⟨[105,115,95,99,111,110]⟩⟩
noncomputable abbrev s_op : Str := ⟨⟨[111,112]⟩⟩
noncomputable abbrev s_Op : Str := ⟨⟨[79,112]⟩⟩
noncomputable abbrev s_items : Str := ⟨⟨[105,116,101,109,115]⟩⟩
noncomputable abbrev s_infix : Str := ⟨⟨[105,110,102,105,120]⟩⟩
noncomputable abbrev s_Infix : Str := ⟨⟨[73,110,102,105,120]⟩⟩
noncomputable abbrev s_Tuple : Str := ⟨⟨[84,117,112,108,101]⟩⟩
noncomputable abbrev s_list : Str := ⟨⟨[108,105,115,116]⟩⟩
noncomputable abbrev s_ListOf : Str := ⟨⟨[76,105,115,116,79,102]⟩⟩
noncomputable abbrev s_expr : Str := ⟨⟨[101,120,112,114]⟩⟩
noncomputable abbrev s_paren : Str := ⟨⟨[112,97,114,101,110]⟩⟩
noncomputable abbrev s_Paren : Str := ⟨⟨[80,97,114,101,110]⟩⟩
noncomputable abbrev t11 : Str := ⟨⟨[108,97,122,121,99,111,114,101,46,112,97,116,116,101,114,110,95,110,111,100,101,115]⟩⟩
noncomputable abbrev s_pvar : Str := ⟨⟨[112,118,97,114]⟩⟩
noncomputable abbrev s_PVar : Str := ⟨⟨[80,86,97,114]⟩⟩
noncomputable abbrev s_pwild : Str := ⟨⟨[112,119,105,108,100]⟩⟩
noncomputable abbrev s_PWild : Str := ⟨⟨[80,87,105,108,100]⟩⟩
noncomputable abbrev s_plit : Str := ⟨⟨[112,108,105,116]⟩⟩
noncomputable abbrev s_PLit : Str := ⟨⟨[80,76,105,116]⟩⟩
noncomputable abbrev s_args : Str := ⟨⟨[97,114,103,115]⟩⟩
noncomputable abbrev s_pcon : Str := ⟨⟨[112,99,111,110]⟩⟩
noncomputable abbrev s_PCon : Str := ⟨⟨[80,67,111,110]⟩⟩
noncomputable abbrev s_ptuple : Str := ⟨⟨[112,116,117,112,108,101]⟩⟩
noncomputable abbrev s_PTuple : Str := ⟨⟨[80,84,117,112,108,101]⟩⟩
noncomputable abbrev s_plist : Str := ⟨⟨[112,108,105,115,116]⟩⟩
noncomputable abbrev s_PList : Str := ⟨⟨[80,76,105,115,116]⟩⟩
noncomputable abbrev s_pattern : Str := ⟨⟨[112,97,116,116,101,114,110]⟩⟩
noncomputable abbrev s_pas : Str := ⟨⟨[112,97,115]⟩⟩
noncomputable abbrev s_PAs : Str := ⟨⟨[80,65,115]⟩⟩
noncomputable abbrev s_plazy : Str := ⟨⟨[112,108,97,122,121]⟩⟩
noncomputable abbrev s_PLazy : Str := ⟨⟨[80,76,97,122,121]⟩⟩
noncomputable abbrev s_pbang : Str := ⟨⟨[112,98,97,110,103]⟩⟩
noncomputable abbrev s_PBang : Str := ⟨⟨[80,66,97,110,103]⟩⟩
noncomputable abbrev s_pinfix : Str := ⟨⟨[112,105,110,102,105,120]⟩⟩
noncomputable abbrev s_PInfix : Str := ⟨⟨[80,73,110,102,105,120]⟩⟩
noncomputable abbrev s_pparen : Str := ⟨⟨[112,112,97,114,101,110]⟩⟩
noncomputable abbrev s_PParen : Str := ⟨⟨[80,80,97,114,101,110]⟩⟩
noncomputable abbrev t12 : Str := ⟨⟨[108,97,122,121,99,111,114,101,46,114,101,97,100,95,112,97,116,116,101,114,110,115]⟩⟩
noncomputable abbrev s_LITERALS : Str := ⟨⟨[76,73,84,69,82,65,76,83]⟩⟩
noncomputable abbrev s_int : Str := ⟨⟨[105,110,116]⟩⟩
noncomputable abbrev s_char : Str := ⟨⟨[99,104,97,114]⟩⟩
noncomputable abbrev s_cursor : Str := ⟨⟨[99,117,114,115,111,114]⟩⟩
noncomputable abbrev s_read_part : Str := ⟨⟨[114,101,97,100,95,112,97,114,116]⟩⟩
noncomputable abbrev s_is_con_operator : Str := ⟨⟨[105,115,95,99,111,110,95,111,112,101,114,97,116,111,114]⟩⟩
noncomputable abbrev s_read_con_operator : Str := ⟨⟨[114,101,97,100,95,99,111,110,95,111,112,101,114,97,116,111,114]⟩⟩
noncomputable abbrev s_read_pattern_at : Str := ⟨⟨[114,101,97,100,95,112,97,116,116,101,114,110,95,97,116]⟩⟩
noncomputable abbrev s_consym : Str := ⟨⟨[99,111,110,115,121,109]⟩⟩
noncomputable abbrev h_10 : Str := ⟨⟨[58]⟩⟩
noncomputable abbrev h_11 : Str := ⟨⟨[96]⟩⟩
noncomputable abbrev s_varsym : Str := ⟨⟨[118,97,114,115,121,109]⟩⟩
noncomputable abbrev h_12 : Str := ⟨⟨[45]⟩⟩
noncomputable abbrev s_read_con_name : Str := ⟨⟨[114,101,97,100,95,99,111,110,95,110,97,109,101]⟩⟩
noncomputable abbrev s_read_atom_pattern : Str := ⟨⟨[114,101,97,100,95,97,116,111,109,95,112,97,116,116,101,114,110]⟩⟩
noncomputable abbrev s_is_pattern_atom : Str := ⟨⟨[105,115,95,112,97,116,116,101,114,110,95,97,116,111,109]⟩⟩
noncomputable abbrev h_13 : Str := ⟨⟨[40]⟩⟩
noncomputable abbrev s_is_con_symbol : Str := ⟨⟨[105,115,95,99,111,110,95,115,121,109,98,111,108]⟩⟩
noncomputable abbrev h_14 : Str := ⟨⟨[91]⟩⟩
noncomputable abbrev h_15 : Str := ⟨⟨[95]⟩⟩
noncomputable abbrev h_16 : Str := ⟨⟨[126]⟩⟩
noncomputable abbrev h_17 : Str := ⟨⟨[33]⟩⟩
noncomputable abbrev t13 : Str := ⟨⟨[97,32,112,97,116,116,101,114,110,32,105,115,32,109,105,115,115,105,110,103]⟩⟩
noncomputable abbrev h_18 : Str := ⟨⟨[64]⟩⟩
noncomputable abbrev s_read_list_pattern : Str := ⟨⟨[114,101,97,100,95,108,105,115,116,95,112,97,116,116,101,114,110]⟩⟩
noncomputable abbrev s_read_bracketed_pattern : Str := ⟨⟨[114,101,97,100,95,98,114,97,99,107,101,116,101,100,95,112,97,116,116,101,114,110]⟩⟩
noncomputable abbrev s_read_several : Str := ⟨⟨[114,101,97,100,95,115,101,118,101,114,97,108]⟩⟩
noncomputable abbrev h_19 : Str := ⟨⟨[91,93]⟩⟩
noncomputable abbrev h_20 : Str := ⟨⟨[40,41]⟩⟩
noncomputable abbrev s_isalpha : Str := ⟨⟨[105,115,97,108,112,104,97]⟩⟩
noncomputable abbrev s_is_plain_name : Str := ⟨⟨[105,115,95,112,108,97,105,110,95,110,97,109,101]⟩⟩
noncomputable abbrev s_isinstance : Str := ⟨⟨[105,115,105,110,115,116,97,110,99,101]⟩⟩
noncomputable abbrev s_applied_pattern : Str := ⟨⟨[97,112,112,108,105,101,100,95,112,97,116,116,101,114,110]⟩⟩
noncomputable abbrev s_pattern_of : Str := ⟨⟨[112,97,116,116,101,114,110,95,111,102]⟩⟩
noncomputable abbrev s_item : Str := ⟨⟨[105,116,101,109]⟩⟩
noncomputable abbrev s_infix_pattern : Str := ⟨⟨[105,110,102,105,120,95,112,97,116,116,101,114,110]⟩⟩
noncomputable abbrev t14 : Str := ⟨⟨[97,110,32,101,120,112,114,101,115,115,105,111,110,32,119,104,101,114,101,32,97,32,112,97,116,116,101,114,110,32,105,115,32,100,117,101]⟩⟩
noncomputable abbrev s_head : Str := ⟨⟨[104,101,97,100]⟩⟩
noncomputable abbrev t15 : Str := ⟨⟨[97,32,112,97,116,116,101,114,110,32,98,101,103,105,110,115,32,119,105,116,104,32,97,32,99,111,110,115,116,114,117,99,116,111,114]⟩⟩
noncomputable abbrev s_reverse : Str := ⟨⟨[114,101,118,101,114,115,101]⟩⟩
noncomputable abbrev t16 : Str := ⟨⟨[111,110,108,121,32,97,32,110,117,109,98,101,114,32,99,97,110,32,98,101,32,98,101,108,111,119,32,48,32,105,110,32,97,32,112,97,116,116,101,114,110]⟩⟩
noncomputable abbrev s_con_operator : Str := ⟨⟨[99,111,110,95,111,112,101,114,97,116,111,114]⟩⟩
noncomputable abbrev t17 : Str := ⟨⟨[97,110,32,111,112,101,114,97,116,111,114,32,116,104,97,116,32,105,115,32,110,111,32,99,111,110,115,116,114,117,99,116,111,114,32,105,110,32,97,32,112,97,116,116,101,114,110]⟩⟩
noncomputable abbrev t18 : Str := ⟨⟨[108,97,122,121,99,111,114,101,46,119,111,114,100,95,114,111,119]⟩⟩
noncomputable abbrev s_WordRow : Str := ⟨⟨[87,111,114,100,82,111,119]⟩⟩
noncomputable abbrev t19 : Str := ⟨⟨[108,97,122,121,99,111,114,101,46,119,111,114,100,115]⟩⟩
noncomputable abbrev s_line : Str := ⟨⟨[108,105,110,101]⟩⟩
noncomputable abbrev s_column : Str := ⟨⟨[99,111,108,117,109,110]⟩⟩
noncomputable abbrev s_is_first : Str := ⟨⟨[105,115,95,102,105,114,115,116]⟩⟩
noncomputable abbrev s_Word : Str := ⟨⟨[87,111,114,100]⟩⟩
noncomputable abbrev s_law_pq0612_01 : Str := ⟨⟨[108,97,119,95,112,113,48,54,49,50,95,48,49]⟩⟩
noncomputable abbrev s_script : Str := ⟨⟨[115,99,114,105,112,116]⟩⟩
noncomputable abbrev s_number : Str := ⟨⟨[110,117,109,98,101,114]⟩⟩
noncomputable abbrev s_abs : Str := ⟨⟨[97,98,115]⟩⟩
noncomputable abbrev l_brook : Str := ⟨⟨[95,108,97,119,95,98,114,111,111,107]⟩⟩
noncomputable abbrev s_brook : Str := ⟨⟨[98,114,111,111,107]⟩⟩
noncomputable abbrev s_many : Str := ⟨⟨[109,97,110,121]⟩⟩
noncomputable abbrev s_got : Str := ⟨⟨[103,111,116]⟩⟩
noncomputable abbrev l_cup : Str := ⟨⟨[95,108,97,119,95,99,117,112]⟩⟩
noncomputable abbrev l_sign : Str := ⟨⟨[95,108,97,119,95,115,105,103,110]⟩⟩
noncomputable abbrev s_size : Str := ⟨⟨[115,105,122,101]⟩⟩
noncomputable abbrev s_str : Str := ⟨⟨[115,116,114]⟩⟩
noncomputable abbrev l_number : Str := ⟨⟨[95,108,97,119,95,110,117,109,98,101,114]⟩⟩
noncomputable abbrev s_way : Str := ⟨⟨[119,97,121]⟩⟩
noncomputable abbrev h_21 : Str := ⟨⟨[58,43]⟩⟩
noncomputable abbrev h_22 : Str := ⟨⟨[58,42]⟩⟩
noncomputable abbrev s_M : Str := ⟨⟨[77]⟩⟩
noncomputable abbrev h_23 : Str := ⟨⟨[77,46,58,42]⟩⟩
noncomputable abbrev s_Cat : Str := ⟨⟨[67,97,116]⟩⟩
noncomputable abbrev l_operator : Str := ⟨⟨[95,108,97,119,95,111,112,101,114,97,116,111,114]⟩⟩
noncomputable abbrev l_whole : Str := ⟨⟨[95,108,97,119,95,119,104,111,108,101]⟩⟩
noncomputable abbrev s_deep : Str := ⟨⟨[100,101,101,112]⟩⟩
noncomputable abbrev s_begin : Str := ⟨⟨[98,101,103,105,110]⟩⟩
noncomputable abbrev s_least_many : Str := ⟨⟨[108,101,97,115,116,95,109,97,110,121]⟩⟩
noncomputable abbrev s_rows : Str := ⟨⟨[114,111,119,115]⟩⟩
noncomputable abbrev s_range : Str := ⟨⟨[114,97,110,103,101]⟩⟩
noncomputable abbrev l_pattern : Str := ⟨⟨[95,108,97,119,95,112,97,116,116,101,114,110]⟩⟩
noncomputable abbrev l_listed : Str := ⟨⟨[95,108,97,119,95,108,105,115,116,101,100]⟩⟩
noncomputable abbrev s_abc : Str := ⟨⟨[97,98,99]⟩⟩
noncomputable abbrev s_Nil : Str := ⟨⟨[78,105,108]⟩⟩
noncomputable abbrev h_24 : Str := ⟨⟨[77,46,78,105,108]⟩⟩
noncomputable abbrev h_25 : Str := ⟨⟨[39,99,39]⟩⟩
noncomputable abbrev s_mark : Str := ⟨⟨[109,97,114,107]⟩⟩
noncomputable abbrev s_d : Str := ⟨⟨[100]⟩⟩
noncomputable abbrev l_atom : Str := ⟨⟨[95,108,97,119,95,97,116,111,109]⟩⟩
noncomputable abbrev s_turn : Str := ⟨⟨[116,117,114,110]⟩⟩
noncomputable abbrev l_part : Str := ⟨⟨[95,108,97,119,95,112,97,114,116]⟩⟩
noncomputable abbrev s_sign : Str := ⟨⟨[115,105,103,110]⟩⟩
noncomputable abbrev s_part : Str := ⟨⟨[112,97,114,116]⟩⟩
noncomputable abbrev s_row_here : Str := ⟨⟨[114,111,119,95,104,101,114,101]⟩⟩
noncomputable abbrev h_nil : Str := ⟨⟨[]⟩⟩
noncomputable abbrev l_read : Str := ⟨⟨[95,108,97,119,95,114,101,97,100]⟩⟩
noncomputable abbrev s_expression : Str := ⟨⟨[101,120,112,114,101,115,115,105,111,110]⟩⟩
noncomputable abbrev l_turned : Str := ⟨⟨[95,108,97,119,95,116,117,114,110,101,100]⟩⟩
noncomputable abbrev s_a : Str := ⟨⟨[97]⟩⟩
noncomputable abbrev s_minus : Str := ⟨⟨[109,105,110,117,115]⟩⟩
noncomputable abbrev s_one : Str := ⟨⟨[111,110,101]⟩⟩
noncomputable abbrev h_26 : Str := ⟨⟨[49]⟩⟩
noncomputable abbrev s_cons : Str := ⟨⟨[99,111,110,115]⟩⟩
noncomputable abbrev s_tick : Str := ⟨⟨[116,105,99,107]⟩⟩
noncomputable abbrev s_less : Str := ⟨⟨[108,101,115,115]⟩⟩
noncomputable abbrev s_more : Str := ⟨⟨[109,111,114,101]⟩⟩
noncomputable abbrev h_27 : Str := ⟨⟨[43]⟩⟩
noncomputable abbrev s_wrong : Str := ⟨⟨[119,114,111,110,103]⟩⟩
noncomputable abbrev s_b : Str := ⟨⟨[98]⟩⟩
noncomputable abbrev s_f : Str := ⟨⟨[102]⟩⟩
noncomputable abbrev h_28 : Str := ⟨⟨[77,46,97]⟩⟩
noncomputable abbrev s_one_wrong : Str := ⟨⟨[111,110,101,95,119,114,111,110,103]⟩⟩
noncomputable abbrev l_fixed_right : Str := ⟨⟨[95,108,97,119,95,102,105,120,101,100,95,114,105,103,104,116]⟩⟩
noncomputable abbrev s_max : Str := ⟨⟨[109,97,120]⟩⟩
noncomputable abbrev s_law : Str := ⟨⟨[108,97,119]⟩⟩
noncomputable abbrev t20 : Str := ⟨⟨[47,99,108,97,105,109,47,99,117,116,46,112,121]⟩⟩
noncomputable abbrev t21 : Str := ⟨⟨[98,117,105,108,116,105,110,115]⟩⟩
noncomputable abbrev t22 : Str := ⟨⟨[95,95,100,111,99,95,95]⟩⟩
noncomputable abbrev t23 : Str := ⟨⟨[95,95,112,97,99,107,97,103,101,95,95]⟩⟩
noncomputable abbrev t24 : Str := ⟨⟨[95,95,108,111,97,100,101,114,95,95]⟩⟩
noncomputable abbrev t25 : Str := ⟨⟨[95,95,115,112,101,99,95,95]⟩⟩
noncomputable abbrev t26 : Str := ⟨⟨[95,95,98,117,105,108,100,95,99,108,97,115,115,95,95]⟩⟩
noncomputable abbrev t27 : Str := ⟨⟨[95,95,105,109,112,111,114,116,95,95]⟩⟩
noncomputable abbrev t28 : Str := ⟨⟨[97,108,108]⟩⟩
noncomputable abbrev t29 : Str := ⟨⟨[97,110,121]⟩⟩
noncomputable abbrev t30 : Str := ⟨⟨[97,115,99,105,105]⟩⟩
noncomputable abbrev t31 : Str := ⟨⟨[98,105,110]⟩⟩
noncomputable abbrev t32 : Str := ⟨⟨[98,114,101,97,107,112,111,105,110,116]⟩⟩
noncomputable abbrev t33 : Str := ⟨⟨[99,97,108,108,97,98,108,101]⟩⟩
noncomputable abbrev t34 : Str := ⟨⟨[99,104,114]⟩⟩
noncomputable abbrev t35 : Str := ⟨⟨[99,111,109,112,105,108,101]⟩⟩
noncomputable abbrev t36 : Str := ⟨⟨[100,101,108,97,116,116,114]⟩⟩
noncomputable abbrev t37 : Str := ⟨⟨[100,105,114]⟩⟩
noncomputable abbrev t38 : Str := ⟨⟨[100,105,118,109,111,100]⟩⟩
noncomputable abbrev t39 : Str := ⟨⟨[101,118,97,108]⟩⟩
noncomputable abbrev t40 : Str := ⟨⟨[101,120,101,99]⟩⟩
noncomputable abbrev t41 : Str := ⟨⟨[102,111,114,109,97,116]⟩⟩
noncomputable abbrev t42 : Str := ⟨⟨[103,101,116,97,116,116,114]⟩⟩
noncomputable abbrev t43 : Str := ⟨⟨[103,108,111,98,97,108,115]⟩⟩
noncomputable abbrev t44 : Str := ⟨⟨[104,97,115,97,116,116,114]⟩⟩
noncomputable abbrev t45 : Str := ⟨⟨[104,97,115,104]⟩⟩
noncomputable abbrev t46 : Str := ⟨⟨[104,101,120]⟩⟩
noncomputable abbrev t47 : Str := ⟨⟨[105,100]⟩⟩
noncomputable abbrev t48 : Str := ⟨⟨[105,110,112,117,116]⟩⟩
noncomputable abbrev t49 : Str := ⟨⟨[105,115,115,117,98,99,108,97,115,115]⟩⟩
noncomputable abbrev t50 : Str := ⟨⟨[105,116,101,114]⟩⟩
noncomputable abbrev t51 : Str := ⟨⟨[97,105,116,101,114]⟩⟩
noncomputable abbrev t52 : Str := ⟨⟨[108,111,99,97,108,115]⟩⟩
noncomputable abbrev t53 : Str := ⟨⟨[97,110,101,120,116]⟩⟩
noncomputable abbrev t54 : Str := ⟨⟨[111,99,116]⟩⟩
noncomputable abbrev t55 : Str := ⟨⟨[111,114,100]⟩⟩
noncomputable abbrev t56 : Str := ⟨⟨[112,111,119]⟩⟩
noncomputable abbrev t57 : Str := ⟨⟨[112,114,105,110,116]⟩⟩
noncomputable abbrev t58 : Str := ⟨⟨[114,101,112,114]⟩⟩
noncomputable abbrev t59 : Str := ⟨⟨[114,111,117,110,100]⟩⟩
noncomputable abbrev t60 : Str := ⟨⟨[115,101,116,97,116,116,114]⟩⟩
noncomputable abbrev t61 : Str := ⟨⟨[115,111,114,116,101,100]⟩⟩
noncomputable abbrev t62 : Str := ⟨⟨[115,117,109]⟩⟩
noncomputable abbrev t63 : Str := ⟨⟨[118,97,114,115]⟩⟩
noncomputable abbrev t64 : Str := ⟨⟨[78,111,110,101]⟩⟩
noncomputable abbrev t65 : Str := ⟨⟨[69,108,108,105,112,115,105,115]⟩⟩
noncomputable abbrev t66 : Str := ⟨⟨[78,111,116,73,109,112,108,101,109,101,110,116,101,100]⟩⟩
noncomputable abbrev t67 : Str := ⟨⟨[70,97,108,115,101]⟩⟩
noncomputable abbrev t68 : Str := ⟨⟨[84,114,117,101]⟩⟩
noncomputable abbrev t69 : Str := ⟨⟨[98,111,111,108]⟩⟩
noncomputable abbrev t70 : Str := ⟨⟨[109,101,109,111,114,121,118,105,101,119]⟩⟩
noncomputable abbrev t71 : Str := ⟨⟨[98,121,116,101,97,114,114,97,121]⟩⟩
noncomputable abbrev t72 : Str := ⟨⟨[98,121,116,101,115]⟩⟩
noncomputable abbrev t73 : Str := ⟨⟨[99,108,97,115,115,109,101,116,104,111,100]⟩⟩
noncomputable abbrev t74 : Str := ⟨⟨[99,111,109,112,108,101,120]⟩⟩
noncomputable abbrev t75 : Str := ⟨⟨[100,105,99,116]⟩⟩
noncomputable abbrev t76 : Str := ⟨⟨[101,110,117,109,101,114,97,116,101]⟩⟩
noncomputable abbrev t77 : Str := ⟨⟨[102,105,108,116,101,114]⟩⟩
noncomputable abbrev t78 : Str := ⟨⟨[102,108,111,97,116]⟩⟩
noncomputable abbrev t79 : Str := ⟨⟨[102,114,111,122,101,110,115,101,116]⟩⟩
noncomputable abbrev t80 : Str := ⟨⟨[112,114,111,112,101,114,116,121]⟩⟩
noncomputable abbrev t81 : Str := ⟨⟨[109,97,112]⟩⟩
noncomputable abbrev t82 : Str := ⟨⟨[111,98,106,101,99,116]⟩⟩
noncomputable abbrev t83 : Str := ⟨⟨[114,101,118,101,114,115,101,100]⟩⟩
noncomputable abbrev t84 : Str := ⟨⟨[115,101,116]⟩⟩
noncomputable abbrev t85 : Str := ⟨⟨[115,108,105,99,101]⟩⟩
noncomputable abbrev t86 : Str := ⟨⟨[115,116,97,116,105,99,109,101,116,104,111,100]⟩⟩
noncomputable abbrev t87 : Str := ⟨⟨[115,117,112,101,114]⟩⟩
noncomputable abbrev t88 : Str := ⟨⟨[116,121,112,101]⟩⟩
noncomputable abbrev t89 : Str := ⟨⟨[122,105,112]⟩⟩
noncomputable abbrev t90 : Str := ⟨⟨[95,95,100,101,98,117,103,95,95]⟩⟩
noncomputable abbrev t91 : Str := ⟨⟨[66,97,115,101,69,120,99,101,112,116,105,111,110]⟩⟩
noncomputable abbrev t92 : Str := ⟨⟨[66,97,115,101,69,120,99,101,112,116,105,111,110,71,114,111,117,112]⟩⟩
noncomputable abbrev t93 : Str := ⟨⟨[71,101,110,101,114,97,116,111,114,69,120,105,116]⟩⟩
noncomputable abbrev t94 : Str := ⟨⟨[75,101,121,98,111,97,114,100,73,110,116,101,114,114,117,112,116]⟩⟩
noncomputable abbrev t95 : Str := ⟨⟨[83,121,115,116,101,109,69,120,105,116]⟩⟩
noncomputable abbrev t96 : Str := ⟨⟨[65,114,105,116,104,109,101,116,105,99,69,114,114,111,114]⟩⟩
noncomputable abbrev t97 : Str := ⟨⟨[65,115,115,101,114,116,105,111,110,69,114,114,111,114]⟩⟩
noncomputable abbrev t98 : Str := ⟨⟨[65,116,116,114,105,98,117,116,101,69,114,114,111,114]⟩⟩
noncomputable abbrev t99 : Str := ⟨⟨[66,117,102,102,101,114,69,114,114,111,114]⟩⟩
noncomputable abbrev t100 : Str := ⟨⟨[69,79,70,69,114,114,111,114]⟩⟩
noncomputable abbrev t101 : Str := ⟨⟨[73,109,112,111,114,116,69,114,114,111,114]⟩⟩
noncomputable abbrev t102 : Str := ⟨⟨[76,111,111,107,117,112,69,114,114,111,114]⟩⟩
noncomputable abbrev t103 : Str := ⟨⟨[77,101,109,111,114,121,69,114,114,111,114]⟩⟩
noncomputable abbrev t104 : Str := ⟨⟨[78,97,109,101,69,114,114,111,114]⟩⟩
noncomputable abbrev t105 : Str := ⟨⟨[79,83,69,114,114,111,114]⟩⟩
noncomputable abbrev t106 : Str := ⟨⟨[82,101,102,101,114,101,110,99,101,69,114,114,111,114]⟩⟩
noncomputable abbrev t107 : Str := ⟨⟨[82,117,110,116,105,109,101,69,114,114,111,114]⟩⟩
noncomputable abbrev t108 : Str := ⟨⟨[83,116,111,112,65,115,121,110,99,73,116,101,114,97,116,105,111,110]⟩⟩
noncomputable abbrev t109 : Str := ⟨⟨[83,116,111,112,73,116,101,114,97,116,105,111,110]⟩⟩
noncomputable abbrev t110 : Str := ⟨⟨[83,121,110,116,97,120,69,114,114,111,114]⟩⟩
noncomputable abbrev t111 : Str := ⟨⟨[83,121,115,116,101,109,69,114,114,111,114]⟩⟩
noncomputable abbrev t112 : Str := ⟨⟨[84,121,112,101,69,114,114,111,114]⟩⟩
noncomputable abbrev t113 : Str := ⟨⟨[86,97,108,117,101,69,114,114,111,114]⟩⟩
noncomputable abbrev t114 : Str := ⟨⟨[87,97,114,110,105,110,103]⟩⟩
noncomputable abbrev t115 : Str := ⟨⟨[70,108,111,97,116,105,110,103,80,111,105,110,116,69,114,114,111,114]⟩⟩
noncomputable abbrev t116 : Str := ⟨⟨[79,118,101,114,102,108,111,119,69,114,114,111,114]⟩⟩
noncomputable abbrev t117 : Str := ⟨⟨[90,101,114,111,68,105,118,105,115,105,111,110,69,114,114,111,114]⟩⟩
noncomputable abbrev t118 : Str := ⟨⟨[66,121,116,101,115,87,97,114,110,105,110,103]⟩⟩
noncomputable abbrev t119 : Str := ⟨⟨[68,101,112,114,101,99,97,116,105,111,110,87,97,114,110,105,110,103]⟩⟩
noncomputable abbrev t120 : Str := ⟨⟨[69,110,99,111,100,105,110,103,87,97,114,110,105,110,103]⟩⟩
noncomputable abbrev t121 : Str := ⟨⟨[70,117,116,117,114,101,87,97,114,110,105,110,103]⟩⟩
noncomputable abbrev t122 : Str := ⟨⟨[73,109,112,111,114,116,87,97,114,110,105,110,103]⟩⟩
noncomputable abbrev t123 : Str := ⟨⟨[80,101,110,100,105,110,103,68,101,112,114,101,99,97,116,105,111,110,87,97,114,110,105,110,103]⟩⟩
noncomputable abbrev t124 : Str := ⟨⟨[82,101,115,111,117,114,99,101,87,97,114,110,105,110,103]⟩⟩
noncomputable abbrev t125 : Str := ⟨⟨[82,117,110,116,105,109,101,87,97,114,110,105,110,103]⟩⟩
noncomputable abbrev t126 : Str := ⟨⟨[83,121,110,116,97,120,87,97,114,110,105,110,103]⟩⟩
noncomputable abbrev t127 : Str := ⟨⟨[85,110,105,99,111,100,101,87,97,114,110,105,110,103]⟩⟩
noncomputable abbrev t128 : Str := ⟨⟨[85,115,101,114,87,97,114,110,105,110,103]⟩⟩
noncomputable abbrev t129 : Str := ⟨⟨[66,108,111,99,107,105,110,103,73,79,69,114,114,111,114]⟩⟩
noncomputable abbrev t130 : Str := ⟨⟨[67,104,105,108,100,80,114,111,99,101,115,115,69,114,114,111,114]⟩⟩
noncomputable abbrev t131 : Str := ⟨⟨[67,111,110,110,101,99,116,105,111,110,69,114,114,111,114]⟩⟩
noncomputable abbrev t132 : Str := ⟨⟨[70,105,108,101,69,120,105,115,116,115,69,114,114,111,114]⟩⟩
noncomputable abbrev t133 : Str := ⟨⟨[70,105,108,101,78,111,116,70,111,117,110,100,69,114,114,111,114]⟩⟩
noncomputable abbrev t134 : Str := ⟨⟨[73,110,116,101,114,114,117,112,116,101,100,69,114,114,111,114]⟩⟩
noncomputable abbrev t135 : Str := ⟨⟨[73,115,65,68,105,114,101,99,116,111,114,121,69,114,114,111,114]⟩⟩
noncomputable abbrev t136 : Str := ⟨⟨[78,111,116,65,68,105,114,101,99,116,111,114,121,69,114,114,111,114]⟩⟩
noncomputable abbrev t137 : Str := ⟨⟨[80,101,114,109,105,115,115,105,111,110,69,114,114,111,114]⟩⟩
noncomputable abbrev t138 : Str := ⟨⟨[80,114,111,99,101,115,115,76,111,111,107,117,112,69,114,114,111,114]⟩⟩
noncomputable abbrev t139 : Str := ⟨⟨[84,105,109,101,111,117,116,69,114,114,111,114]⟩⟩
noncomputable abbrev t140 : Str := ⟨⟨[73,110,100,101,110,116,97,116,105,111,110,69,114,114,111,114]⟩⟩
noncomputable abbrev t141 : Str := ⟨⟨[95,73,110,99,111,109,112,108,101,116,101,73,110,112,117,116,69,114,114,111,114]⟩⟩
noncomputable abbrev t142 : Str := ⟨⟨[73,110,100,101,120,69,114,114,111,114]⟩⟩
noncomputable abbrev t143 : Str := ⟨⟨[75,101,121,69,114,114,111,114]⟩⟩
noncomputable abbrev t144 : Str := ⟨⟨[77,111,100,117,108,101,78,111,116,70,111,117,110,100,69,114,114,111,114]⟩⟩
noncomputable abbrev t145 : Str := ⟨⟨[78,111,116,73,109,112,108,101,109,101,110,116,101,100,69,114,114,111,114]⟩⟩
noncomputable abbrev t146 : Str := ⟨⟨[80,121,116,104,111,110,70,105,110,97,108,105,122,97,116,105,111,110,69,114,114,111,114]⟩⟩
noncomputable abbrev t147 : Str := ⟨⟨[82,101,99,117,114,115,105,111,110,69,114,114,111,114]⟩⟩
noncomputable abbrev t148 : Str := ⟨⟨[85,110,98,111,117,110,100,76,111,99,97,108,69,114,114,111,114]⟩⟩
noncomputable abbrev t149 : Str := ⟨⟨[85,110,105,99,111,100,101,69,114,114,111,114]⟩⟩
noncomputable abbrev t150 : Str := ⟨⟨[66,114,111,107,101,110,80,105,112,101,69,114,114,111,114]⟩⟩
noncomputable abbrev t151 : Str := ⟨⟨[67,111,110,110,101,99,116,105,111,110,65,98,111,114,116,101,100,69,114,114,111,114]⟩⟩
noncomputable abbrev t152 : Str := ⟨⟨[67,111,110,110,101,99,116,105,111,110,82,101,102,117,115,101,100,69,114,114,111,114]⟩⟩
noncomputable abbrev t153 : Str := ⟨⟨[67,111,110,110,101,99,116,105,111,110,82,101,115,101,116,69,114,114,111,114]⟩⟩
noncomputable abbrev t154 : Str := ⟨⟨[84,97,98,69,114,114,111,114]⟩⟩
noncomputable abbrev t155 : Str := ⟨⟨[85,110,105,99,111,100,101,68,101,99,111,100,101,69,114,114,111,114]⟩⟩
noncomputable abbrev t156 : Str := ⟨⟨[85,110,105,99,111,100,101,69,110,99,111,100,101,69,114,114,111,114]⟩⟩
noncomputable abbrev t157 : Str := ⟨⟨[85,110,105,99,111,100,101,84,114,97,110,115,108,97,116,101,69,114,114,111,114]⟩⟩
noncomputable abbrev t158 : Str := ⟨⟨[69,120,99,101,112,116,105,111,110,71,114,111,117,112]⟩⟩
noncomputable abbrev t159 : Str := ⟨⟨[69,110,118,105,114,111,110,109,101,110,116,69,114,114,111,114]⟩⟩
noncomputable abbrev t160 : Str := ⟨⟨[73,79,69,114,114,111,114]⟩⟩
noncomputable abbrev t161 : Str := ⟨⟨[111,112,101,110]⟩⟩
noncomputable abbrev t162 : Str := ⟨⟨[113,117,105,116]⟩⟩
noncomputable abbrev t163 : Str := ⟨⟨[101,120,105,116]⟩⟩
noncomputable abbrev t164 : Str := ⟨⟨[99,111,112,121,114,105,103,104,116]⟩⟩
noncomputable abbrev t165 : Str := ⟨⟨[99,114,101,100,105,116,115]⟩⟩
noncomputable abbrev t166 : Str := ⟨⟨[108,105,99,101,110,115,101]⟩⟩
noncomputable abbrev t167 : Str := ⟨⟨[104,101,108,112]⟩⟩
noncomputable abbrev t168 : Str := ⟨⟨[95,95,109,97,105,110,95,95]⟩⟩
noncomputable abbrev t169 : Str := ⟨⟨[116,121,112,101,46,95,95,115,117,98,99,108,97,115,115,101,115,95,95,46,69,120,99,101,112,116,105,111,110,46,48]⟩⟩
noncomputable abbrev t170 : Str := ⟨⟨[116,121,112,101,46,95,95,115,117,98,99,108,97,115,115,101,115,95,95,46,69,120,99,101,112,116,105,111,110,46,110]⟩⟩
noncomputable abbrev t171 : Str := ⟨⟨[95,95,97,110,110,111,116,97,116,105,111,110,115,95,95]⟩⟩
noncomputable abbrev t172 : Str := ⟨⟨[95,95,98,117,105,108,116,105,110,115,95,95]⟩⟩
noncomputable abbrev t173 : Str := ⟨⟨[95,95,102,105,108,101,95,95]⟩⟩
noncomputable abbrev t174 : Str := ⟨⟨[95,95,99,97,99,104,101,100,95,95]⟩⟩
noncomputable abbrev t175 : Str := ⟨⟨[60,109,111,100,117,108,101,62]⟩⟩
noncomputable abbrev t176 : Str := ⟨⟨[95,95,109,111,100,117,108,101,95,95]⟩⟩
noncomputable abbrev t177 : Str := ⟨⟨[95,95,113,117,97,108,110,97,109,101,95,95]⟩⟩
noncomputable abbrev t178 : Str := ⟨⟨[95,95,102,105,114,115,116,108,105,110,101,110,111,95,95]⟩⟩
noncomputable abbrev t179 : Str := ⟨⟨[95,95,115,116,97,116,105,99,95,97,116,116,114,105,98,117,116,101,115,95,95]⟩⟩
noncomputable abbrev t180 : Str := ⟨⟨[76,97,122,121,69,114,114,111,114,46,95,95,105,110,105,116,95,95]⟩⟩
noncomputable abbrev t181 : Str := ⟨⟨[95,95,119,101,97,107,114,101,102,95,95]⟩⟩
noncomputable abbrev t182 : Str := ⟨⟨[67,117,114,115,111,114,46,95,95,105,110,105,116,95,95]⟩⟩
noncomputable abbrev t183 : Str := ⟨⟨[67,117,114,115,111,114,46,112,101,101,107]⟩⟩
noncomputable abbrev t184 : Str := ⟨⟨[67,117,114,115,111,114,46,110,101,120,116]⟩⟩
noncomputable abbrev t185 : Str := ⟨⟨[67,117,114,115,111,114,46,112,108,97,99,101]⟩⟩
noncomputable abbrev t186 : Str := ⟨⟨[67,117,114,115,111,114,46,98,101,104,105,110,100]⟩⟩
noncomputable abbrev t187 : Str := ⟨⟨[67,117,114,115,111,114,46,105,115,95,106,111,105,110,101,100]⟩⟩
noncomputable abbrev t188 : Str := ⟨⟨[67,117,114,115,111,114,46,105,115,95,97,116]⟩⟩
noncomputable abbrev t189 : Str := ⟨⟨[67,117,114,115,111,114,46,116,97,107,101]⟩⟩
noncomputable abbrev t190 : Str := ⟨⟨[67,117,114,115,111,114,46,119,97,110,116]⟩⟩
noncomputable abbrev t191 : Str := ⟨⟨[67,117,114,115,111,114,46,114,101,102,117,115,101]⟩⟩
noncomputable abbrev t192 : Str := ⟨⟨[67,117,114,115,111,114,46,98,108,111,99,107]⟩⟩
noncomputable abbrev t193 : Str := ⟨⟨[67,117,114,115,111,114,46,105,115,95,101,110,100,95,104,101,114,101]⟩⟩
noncomputable abbrev t194 : Str := ⟨⟨[67,117,114,115,111,114,46,99,108,111,115,101,115]⟩⟩
noncomputable abbrev t195 : Str := ⟨⟨[95,95,100,105,99,116,95,95]⟩⟩
noncomputable abbrev t196 : Str := ⟨⟨[78,111,100,101,46,95,95,105,110,105,116,95,95]⟩⟩
noncomputable abbrev t197 : Str := ⟨⟨[78,111,100,101,46,114,111,119]⟩⟩
noncomputable abbrev t198 : Str := ⟨⟨[86,97,114,46,95,95,105,110,105,116,95,95]⟩⟩
noncomputable abbrev t199 : Str := ⟨⟨[86,97,114,46,114,111,119]⟩⟩
noncomputable abbrev t200 : Str := ⟨⟨[67,111,110,46,95,95,105,110,105,116,95,95]⟩⟩
noncomputable abbrev t201 : Str := ⟨⟨[67,111,110,46,114,111,119]⟩⟩
noncomputable abbrev t202 : Str := ⟨⟨[76,105,116,46,95,95,105,110,105,116,95,95]⟩⟩
noncomputable abbrev t203 : Str := ⟨⟨[76,105,116,46,114,111,119]⟩⟩
noncomputable abbrev t204 : Str := ⟨⟨[65,112,112,46,95,95,105,110,105,116,95,95]⟩⟩
noncomputable abbrev t205 : Str := ⟨⟨[65,112,112,46,114,111,119]⟩⟩
noncomputable abbrev t206 : Str := ⟨⟨[79,112,46,95,95,105,110,105,116,95,95]⟩⟩
noncomputable abbrev t207 : Str := ⟨⟨[79,112,46,114,111,119]⟩⟩
noncomputable abbrev t208 : Str := ⟨⟨[73,110,102,105,120,46,95,95,105,110,105,116,95,95]⟩⟩
noncomputable abbrev t209 : Str := ⟨⟨[73,110,102,105,120,46,114,111,119]⟩⟩
noncomputable abbrev t210 : Str := ⟨⟨[84,117,112,108,101,46,95,95,105,110,105,116,95,95]⟩⟩
noncomputable abbrev t211 : Str := ⟨⟨[84,117,112,108,101,46,114,111,119]⟩⟩
noncomputable abbrev t212 : Str := ⟨⟨[76,105,115,116,79,102,46,95,95,105,110,105,116,95,95]⟩⟩
noncomputable abbrev t213 : Str := ⟨⟨[76,105,115,116,79,102,46,114,111,119]⟩⟩
noncomputable abbrev t214 : Str := ⟨⟨[80,97,114,101,110,46,95,95,105,110,105,116,95,95]⟩⟩
noncomputable abbrev t215 : Str := ⟨⟨[80,97,114,101,110,46,114,111,119]⟩⟩
noncomputable abbrev t216 : Str := ⟨⟨[80,86,97,114,46,95,95,105,110,105,116,95,95]⟩⟩
noncomputable abbrev t217 : Str := ⟨⟨[80,86,97,114,46,114,111,119]⟩⟩
noncomputable abbrev t218 : Str := ⟨⟨[80,87,105,108,100,46,95,95,105,110,105,116,95,95]⟩⟩
noncomputable abbrev t219 : Str := ⟨⟨[80,87,105,108,100,46,114,111,119]⟩⟩
noncomputable abbrev t220 : Str := ⟨⟨[80,76,105,116,46,95,95,105,110,105,116,95,95]⟩⟩
noncomputable abbrev t221 : Str := ⟨⟨[80,76,105,116,46,114,111,119]⟩⟩
noncomputable abbrev t222 : Str := ⟨⟨[80,67,111,110,46,95,95,105,110,105,116,95,95]⟩⟩
noncomputable abbrev t223 : Str := ⟨⟨[80,67,111,110,46,114,111,119]⟩⟩
noncomputable abbrev t224 : Str := ⟨⟨[80,84,117,112,108,101,46,95,95,105,110,105,116,95,95]⟩⟩
noncomputable abbrev t225 : Str := ⟨⟨[80,84,117,112,108,101,46,114,111,119]⟩⟩
noncomputable abbrev t226 : Str := ⟨⟨[80,76,105,115,116,46,95,95,105,110,105,116,95,95]⟩⟩
noncomputable abbrev t227 : Str := ⟨⟨[80,76,105,115,116,46,114,111,119]⟩⟩
noncomputable abbrev t228 : Str := ⟨⟨[80,65,115,46,95,95,105,110,105,116,95,95]⟩⟩
noncomputable abbrev t229 : Str := ⟨⟨[80,65,115,46,114,111,119]⟩⟩
noncomputable abbrev t230 : Str := ⟨⟨[80,76,97,122,121,46,95,95,105,110,105,116,95,95]⟩⟩
noncomputable abbrev t231 : Str := ⟨⟨[80,76,97,122,121,46,114,111,119]⟩⟩
noncomputable abbrev t232 : Str := ⟨⟨[80,66,97,110,103,46,95,95,105,110,105,116,95,95]⟩⟩
noncomputable abbrev t233 : Str := ⟨⟨[80,66,97,110,103,46,114,111,119]⟩⟩
noncomputable abbrev t234 : Str := ⟨⟨[80,73,110,102,105,120,46,95,95,105,110,105,116,95,95]⟩⟩
noncomputable abbrev t235 : Str := ⟨⟨[80,73,110,102,105,120,46,114,111,119]⟩⟩
noncomputable abbrev t236 : Str := ⟨⟨[80,80,97,114,101,110,46,95,95,105,110,105,116,95,95]⟩⟩
noncomputable abbrev t237 : Str := ⟨⟨[80,80,97,114,101,110,46,114,111,119]⟩⟩
noncomputable abbrev t238 : Str := ⟨⟨[87,111,114,100,82,111,119,46,95,95,105,110,105,116,95,95]⟩⟩
noncomputable abbrev t239 : Str := ⟨⟨[87,111,114,100,82,111,119,46,112,101,101,107]⟩⟩
noncomputable abbrev t240 : Str := ⟨⟨[87,111,114,100,82,111,119,46,110,101,120,116]⟩⟩
noncomputable abbrev t241 : Str := ⟨⟨[87,111,114,100,82,111,119,46,99,108,111,115,101,95,98,121,95,101,114,114,111,114]⟩⟩
noncomputable abbrev t242 : Str := ⟨⟨[87,111,114,100,82,111,119,46,105,115,95,106,111,105,110,101,100]⟩⟩
noncomputable abbrev t243 : Str := ⟨⟨[87,111,114,100,46,95,95,105,110,105,116,95,95]⟩⟩
noncomputable abbrev t244 : Str := ⟨⟨[87,111,114,100,46,112,108,97,99,101]⟩⟩
noncomputable abbrev t245 : Str := ⟨⟨[87,111,114,100,46,105,115,95,119,111,114,100]⟩⟩
noncomputable abbrev h_29 : Str := ⟨⟨[48]⟩⟩
noncomputable abbrev s_c : Str := ⟨⟨[99]⟩⟩
namespace hd
noncomputable def nthS : List Stmt → Nat → Stmt
  | s :: _, 0 => s
  | _ :: l, n + 1 => nthS l n
  | [], _ => .Pass ⟨0,0,0,0⟩
noncomputable def fB : Stmt → List Stmt
  | .FunctionDef _ _ b _ _ _ _ _ _ _ => b
  | .ClassDef _ _ _ b _ _ _ _ _ _ _ => b
  | _ => []
noncomputable def fA : Stmt → Arguments
  | .FunctionDef _ a _ _ _ _ _ _ _ _ => a
  | _ => ⟨[],[],none,[],[],none,[]⟩
noncomputable def fS : Stmt → Scope
  | .FunctionDef _ _ _ _ _ _ s _ _ _ => s
  | _ => ⟨.function,[],false,false,[]⟩
noncomputable def sm (n : Nat) : Stmt := nthS PySem.Challenge.pw_pq0612_01.main.body n
noncomputable def sn (n m : Nat) : Stmt := nthS (fB (sm n)) m
theorem q.s_k : Str.ofString "k" = s_k := by kernel_rfl
theorem q.h_1 : Str.ofString "__name__" = h_1 := by kernel_rfl
theorem q.t1 : Str.ofString "lazycore.errors" = t1 := by kernel_rfl
theorem q.s_self : Str.ofString "self" = s_self := by kernel_rfl
theorem q.s_message : Str.ofString "message" = s_message := by kernel_rfl
theorem q.s_place : Str.ofString "place" = s_place := by kernel_rfl
theorem q.s_Exception : Str.ofString "Exception" = s_Exception := by kernel_rfl
theorem q.h_2 : Str.ofString "__init__" = h_2 := by kernel_rfl
theorem q.t2 : Str.ofString "lazycore.layout" = t2 := by kernel_rfl
theorem q.s_VIRTUAL : Str.ofString "VIRTUAL" = s_VIRTUAL := by kernel_rfl
theorem q.s_virtual : Str.ofString "virtual" = s_virtual := by kernel_rfl
theorem q.s_word : Str.ofString "word" = s_word := by kernel_rfl
theorem q.s_kind : Str.ofString "kind" = s_kind := by kernel_rfl
theorem q.s_special : Str.ofString "special" = s_special := by kernel_rfl
theorem q.s_value : Str.ofString "value" = s_value := by kernel_rfl
theorem q.t3 : Str.ofString "lazycore.cursor" = t3 := by kernel_rfl
theorem q.s_CLOSING_KEYS : Str.ofString "CLOSING_KEYS" = s_CLOSING_KEYS := by kernel_rfl
theorem q.s_in : Str.ofString "in" = s_in := by kernel_rfl
theorem q.s_of : Str.ofString "of" = s_of := by kernel_rfl
theorem q.s_then : Str.ofString "then" = s_then := by kernel_rfl
theorem q.s_else : Str.ofString "else" = s_else := by kernel_rfl
theorem q.s_CLOSING_SIGNS : Str.ofString "CLOSING_SIGNS" = s_CLOSING_SIGNS := by kernel_rfl
theorem q.h_3 : Str.ofString ")" = h_3 := by kernel_rfl
theorem q.h_4 : Str.ofString "]" = h_4 := by kernel_rfl
theorem q.h_5 : Str.ofString "," = h_5 := by kernel_rfl
theorem q.h_6 : Str.ofString "}" = h_6 := by kernel_rfl
theorem q.s_text : Str.ofString "text" = s_text := by kernel_rfl
theorem q.h_7 : Str.ofString "." = h_7 := by kernel_rfl
theorem q.s_layout : Str.ofString "layout" = s_layout := by kernel_rfl
theorem q.s_last : Str.ofString "last" = s_last := by kernel_rfl
theorem q.s_peek : Str.ofString "peek" = s_peek := by kernel_rfl
theorem q.s_next : Str.ofString "next" = s_next := by kernel_rfl
theorem q.s_words : Str.ofString "words" = s_words := by kernel_rfl
theorem q.s_min : Str.ofString "min" = s_min := by kernel_rfl
theorem q.s_at : Str.ofString "at" = s_at := by kernel_rfl
theorem q.s_len : Str.ofString "len" = s_len := by kernel_rfl
theorem q.h_0 : Str.ofString "_wall" = h_0 := by kernel_rfl
theorem q.s_is_at : Str.ofString "is_at" = s_is_at := by kernel_rfl
theorem q.s_refuse : Str.ofString "refuse" = s_refuse := by kernel_rfl
theorem q.t4 : Str.ofString " is missing" = t4 := by kernel_rfl
theorem q.s_told : Str.ofString "told" = s_told := by kernel_rfl
theorem q.s_end : Str.ofString "end" = s_end := by kernel_rfl
theorem q.t5 : Str.ofString "the end" = t5 := by kernel_rfl
theorem q.s_ReadError : Str.ofString "ReadError" = s_ReadError := by kernel_rfl
theorem q.t6 : Str.ofString ", at " = t6 := by kernel_rfl
theorem q.s_read_one : Str.ofString "read_one" = s_read_one := by kernel_rfl
theorem q.s_is_laid : Str.ofString "is_laid" = s_is_laid := by kernel_rfl
theorem q.s_found : Str.ofString "found" = s_found := by kernel_rfl
theorem q.s_is_virtual : Str.ofString "is_virtual" = s_is_virtual := by kernel_rfl
theorem q.s_want : Str.ofString "want" = s_want := by kernel_rfl
theorem q.h_8 : Str.ofString "{" = h_8 := by kernel_rfl
theorem q.s_take : Str.ofString "take" = s_take := by kernel_rfl
theorem q.h_9 : Str.ofString ";" = h_9 := by kernel_rfl
theorem q.s_is_end_here : Str.ofString "is_end_here" = s_is_end_here := by kernel_rfl
theorem q.s_closes : Str.ofString "closes" = s_closes := by kernel_rfl
theorem q.s_append : Str.ofString "append" = s_append := by kernel_rfl
theorem q.t7 : Str.ofString "a block does not go on so" = t7 := by kernel_rfl
theorem q.s_key : Str.ofString "key" = s_key := by kernel_rfl
theorem q.s_is_word : Str.ofString "is_word" = s_is_word := by kernel_rfl
theorem q.s_close_by_error : Str.ofString "close_by_error" = s_close_by_error := by kernel_rfl
theorem q.t8 : Str.ofString "lazycore.nodes" = t8 := by kernel_rfl
theorem q.s_nodes : Str.ofString "nodes" = s_nodes := by kernel_rfl
theorem q.s_tuple : Str.ofString "tuple" = s_tuple := by kernel_rfl
theorem q.s_node : Str.ofString "node" = s_node := by kernel_rfl
theorem q.s_row : Str.ofString "row" = s_row := by kernel_rfl
theorem q.t9 : Str.ofString ".0" = t9 := by kernel_rfl
theorem q.t10 : Str.ofString "fast" = t10 := by kernel_rfl
theorem q.s_name : Str.ofString "name" = s_name := by kernel_rfl
theorem q.s_Node : Str.ofString "Node" = s_Node := by kernel_rfl
theorem q.s_uses : Str.ofString "uses" = s_uses := by kernel_rfl
theorem q.s_var : Str.ofString "var" = s_var := by kernel_rfl
theorem q.s_con : Str.ofString "con" = s_con := by kernel_rfl
theorem q.s_lit : Str.ofString "lit" = s_lit := by kernel_rfl
theorem q.s_fun : Str.ofString "fun" = s_fun := by kernel_rfl
theorem q.s_arg : Str.ofString "arg" = s_arg := by kernel_rfl
theorem q.s_app : Str.ofString "app" = s_app := by kernel_rfl
theorem q.s_is_con : Str.ofString "is_con" = s_is_con := by kernel_rfl
theorem q.s_op : Str.ofString "op" = s_op := by kernel_rfl
theorem q.s_items : Str.ofString "items" = s_items := by kernel_rfl
theorem q.s_infix : Str.ofString "infix" = s_infix := by kernel_rfl
theorem q.s_rows_of : Str.ofString "rows_of" = s_rows_of := by kernel_rfl
theorem q.s_list : Str.ofString "list" = s_list := by kernel_rfl
theorem q.s_expr : Str.ofString "expr" = s_expr := by kernel_rfl
theorem q.s_paren : Str.ofString "paren" = s_paren := by kernel_rfl
theorem q.t11 : Str.ofString "lazycore.pattern_nodes" = t11 := by kernel_rfl
theorem q.s_pvar : Str.ofString "pvar" = s_pvar := by kernel_rfl
theorem q.s_pwild : Str.ofString "pwild" = s_pwild := by kernel_rfl
theorem q.s_plit : Str.ofString "plit" = s_plit := by kernel_rfl
theorem q.s_args : Str.ofString "args" = s_args := by kernel_rfl
theorem q.s_pcon : Str.ofString "pcon" = s_pcon := by kernel_rfl
theorem q.s_ptuple : Str.ofString "ptuple" = s_ptuple := by kernel_rfl
theorem q.s_plist : Str.ofString "plist" = s_plist := by kernel_rfl
theorem q.s_pattern : Str.ofString "pattern" = s_pattern := by kernel_rfl
theorem q.s_pas : Str.ofString "pas" = s_pas := by kernel_rfl
theorem q.s_plazy : Str.ofString "plazy" = s_plazy := by kernel_rfl
theorem q.s_pbang : Str.ofString "pbang" = s_pbang := by kernel_rfl
theorem q.s_pinfix : Str.ofString "pinfix" = s_pinfix := by kernel_rfl
theorem q.s_pparen : Str.ofString "pparen" = s_pparen := by kernel_rfl
theorem q.t12 : Str.ofString "lazycore.read_patterns" = t12 := by kernel_rfl
theorem q.s_LITERALS : Str.ofString "LITERALS" = s_LITERALS := by kernel_rfl
theorem q.s_int : Str.ofString "int" = s_int := by kernel_rfl
theorem q.s_char : Str.ofString "char" = s_char := by kernel_rfl
theorem q.s_cursor : Str.ofString "cursor" = s_cursor := by kernel_rfl
theorem q.s_read_part : Str.ofString "read_part" = s_read_part := by kernel_rfl
theorem q.s_is_con_operator : Str.ofString "is_con_operator" = s_is_con_operator := by kernel_rfl
theorem q.s_read_con_operator : Str.ofString "read_con_operator" = s_read_con_operator := by kernel_rfl
theorem q.s_PInfix : Str.ofString "PInfix" = s_PInfix := by kernel_rfl
theorem q.s_consym : Str.ofString "consym" = s_consym := by kernel_rfl
theorem q.h_10 : Str.ofString ":" = h_10 := by kernel_rfl
theorem q.h_11 : Str.ofString "`" = h_11 := by kernel_rfl
theorem q.s_Op : Str.ofString "Op" = s_Op := by kernel_rfl
theorem q.s_full_name : Str.ofString "full_name" = s_full_name := by kernel_rfl
theorem q.s_varsym : Str.ofString "varsym" = s_varsym := by kernel_rfl
theorem q.h_12 : Str.ofString "-" = h_12 := by kernel_rfl
theorem q.s_PLit : Str.ofString "PLit" = s_PLit := by kernel_rfl
theorem q.s_read_con_name : Str.ofString "read_con_name" = s_read_con_name := by kernel_rfl
theorem q.s_read_atom_pattern : Str.ofString "read_atom_pattern" = s_read_atom_pattern := by kernel_rfl
theorem q.s_is_pattern_atom : Str.ofString "is_pattern_atom" = s_is_pattern_atom := by kernel_rfl
theorem q.s_PCon : Str.ofString "PCon" = s_PCon := by kernel_rfl
theorem q.h_13 : Str.ofString "(" = h_13 := by kernel_rfl
theorem q.s_is_con_symbol : Str.ofString "is_con_symbol" = s_is_con_symbol := by kernel_rfl
theorem q.s_behind : Str.ofString "behind" = s_behind := by kernel_rfl
theorem q.h_14 : Str.ofString "[" = h_14 := by kernel_rfl
theorem q.h_15 : Str.ofString "_" = h_15 := by kernel_rfl
theorem q.h_16 : Str.ofString "~" = h_16 := by kernel_rfl
theorem q.h_17 : Str.ofString "!" = h_17 := by kernel_rfl
theorem q.t13 : Str.ofString "a pattern is missing" = t13 := by kernel_rfl
theorem q.h_18 : Str.ofString "@" = h_18 := by kernel_rfl
theorem q.s_PAs : Str.ofString "PAs" = s_PAs := by kernel_rfl
theorem q.s_PVar : Str.ofString "PVar" = s_PVar := by kernel_rfl
theorem q.s_PWild : Str.ofString "PWild" = s_PWild := by kernel_rfl
theorem q.s_PLazy : Str.ofString "PLazy" = s_PLazy := by kernel_rfl
theorem q.s_PBang : Str.ofString "PBang" = s_PBang := by kernel_rfl
theorem q.s_read_list_pattern : Str.ofString "read_list_pattern" = s_read_list_pattern := by kernel_rfl
theorem q.s_read_bracketed_pattern : Str.ofString "read_bracketed_pattern" = s_read_bracketed_pattern := by kernel_rfl
theorem q.s_read_pattern_at : Str.ofString "read_pattern_at" = s_read_pattern_at := by kernel_rfl
theorem q.h_19 : Str.ofString "[]" = h_19 := by kernel_rfl
theorem q.s_read_several : Str.ofString "read_several" = s_read_several := by kernel_rfl
theorem q.s_PList : Str.ofString "PList" = s_PList := by kernel_rfl
theorem q.h_20 : Str.ofString "()" = h_20 := by kernel_rfl
theorem q.s_PParen : Str.ofString "PParen" = s_PParen := by kernel_rfl
theorem q.s_PTuple : Str.ofString "PTuple" = s_PTuple := by kernel_rfl
theorem q.s_isalpha : Str.ofString "isalpha" = s_isalpha := by kernel_rfl
theorem q.s_isinstance : Str.ofString "isinstance" = s_isinstance := by kernel_rfl
theorem q.s_Var : Str.ofString "Var" = s_Var := by kernel_rfl
theorem q.s_is_plain_name : Str.ofString "is_plain_name" = s_is_plain_name := by kernel_rfl
theorem q.s_Lit : Str.ofString "Lit" = s_Lit := by kernel_rfl
theorem q.s_Con : Str.ofString "Con" = s_Con := by kernel_rfl
theorem q.s_App : Str.ofString "App" = s_App := by kernel_rfl
theorem q.s_applied_pattern : Str.ofString "applied_pattern" = s_applied_pattern := by kernel_rfl
theorem q.s_Paren : Str.ofString "Paren" = s_Paren := by kernel_rfl
theorem q.s_pattern_of : Str.ofString "pattern_of" = s_pattern_of := by kernel_rfl
theorem q.s_Tuple : Str.ofString "Tuple" = s_Tuple := by kernel_rfl
theorem q.s_item : Str.ofString "item" = s_item := by kernel_rfl
theorem q.s_ListOf : Str.ofString "ListOf" = s_ListOf := by kernel_rfl
theorem q.s_Infix : Str.ofString "Infix" = s_Infix := by kernel_rfl
theorem q.s_infix_pattern : Str.ofString "infix_pattern" = s_infix_pattern := by kernel_rfl
theorem q.t14 : Str.ofString "an expression where a pattern is due" = t14 := by kernel_rfl
theorem q.s_head : Str.ofString "head" = s_head := by kernel_rfl
theorem q.t15 : Str.ofString "a pattern begins with a constructor" = t15 := by kernel_rfl
theorem q.s_reverse : Str.ofString "reverse" = s_reverse := by kernel_rfl
theorem q.t16 : Str.ofString "only a number can be below 0 in a pattern" = t16 := by kernel_rfl
theorem q.s_con_operator : Str.ofString "con_operator" = s_con_operator := by kernel_rfl
theorem q.t17 : Str.ofString "an operator that is no constructor in a pattern" = t17 := by kernel_rfl
theorem q.t18 : Str.ofString "lazycore.word_row" = t18 := by kernel_rfl
theorem q.t19 : Str.ofString "lazycore.words" = t19 := by kernel_rfl
theorem q.s_line : Str.ofString "line" = s_line := by kernel_rfl
theorem q.s_column : Str.ofString "column" = s_column := by kernel_rfl
theorem q.s_is_first : Str.ofString "is_first" = s_is_first := by kernel_rfl
theorem q.s_law_pq0612_01 : Str.ofString "law_pq0612_01" = s_law_pq0612_01 := by kernel_rfl
theorem q.s_script : Str.ofString "script" = s_script := by kernel_rfl
theorem q.s_number : Str.ofString "number" = s_number := by kernel_rfl
theorem q.s_abs : Str.ofString "abs" = s_abs := by kernel_rfl
theorem q.s_brook : Str.ofString "brook" = s_brook := by kernel_rfl
theorem q.s_many : Str.ofString "many" = s_many := by kernel_rfl
theorem q.s_got : Str.ofString "got" = s_got := by kernel_rfl
theorem q.s_Word : Str.ofString "Word" = s_Word := by kernel_rfl
theorem q.s_size : Str.ofString "size" = s_size := by kernel_rfl
theorem q.s_str : Str.ofString "str" = s_str := by kernel_rfl
theorem q.s_way : Str.ofString "way" = s_way := by kernel_rfl
theorem q.l_cup : Str.ofString "_law_cup" = l_cup := by kernel_rfl
theorem q.h_21 : Str.ofString ":+" = h_21 := by kernel_rfl
theorem q.h_22 : Str.ofString ":*" = h_22 := by kernel_rfl
theorem q.s_M : Str.ofString "M" = s_M := by kernel_rfl
theorem q.h_23 : Str.ofString "M.:*" = h_23 := by kernel_rfl
theorem q.l_sign : Str.ofString "_law_sign" = l_sign := by kernel_rfl
theorem q.s_Cat : Str.ofString "Cat" = s_Cat := by kernel_rfl
theorem q.s_deep : Str.ofString "deep" = s_deep := by kernel_rfl
theorem q.s_begin : Str.ofString "begin" = s_begin := by kernel_rfl
theorem q.s_least_many : Str.ofString "least_many" = s_least_many := by kernel_rfl
theorem q.s_rows : Str.ofString "rows" = s_rows := by kernel_rfl
theorem q.s_range : Str.ofString "range" = s_range := by kernel_rfl
theorem q.l_pattern : Str.ofString "_law_pattern" = l_pattern := by kernel_rfl
theorem q.l_whole : Str.ofString "_law_whole" = l_whole := by kernel_rfl
theorem q.s_abc : Str.ofString "abc" = s_abc := by kernel_rfl
theorem q.l_number : Str.ofString "_law_number" = l_number := by kernel_rfl
theorem q.s_Nil : Str.ofString "Nil" = s_Nil := by kernel_rfl
theorem q.h_24 : Str.ofString "M.Nil" = h_24 := by kernel_rfl
theorem q.h_25 : Str.ofString "'c'" = h_25 := by kernel_rfl
theorem q.s_mark : Str.ofString "mark" = s_mark := by kernel_rfl
theorem q.s_d : Str.ofString "d" = s_d := by kernel_rfl
theorem q.l_listed : Str.ofString "_law_listed" = l_listed := by kernel_rfl
theorem q.l_atom : Str.ofString "_law_atom" = l_atom := by kernel_rfl
theorem q.s_turn : Str.ofString "turn" = s_turn := by kernel_rfl
theorem q.l_part : Str.ofString "_law_part" = l_part := by kernel_rfl
theorem q.s_sign : Str.ofString "sign" = s_sign := by kernel_rfl
theorem q.s_part : Str.ofString "part" = s_part := by kernel_rfl
theorem q.l_operator : Str.ofString "_law_operator" = l_operator := by kernel_rfl
theorem q.s_row_here : Str.ofString "row_here" = s_row_here := by kernel_rfl
theorem q.s_WordRow : Str.ofString "WordRow" = s_WordRow := by kernel_rfl
theorem q.h_nil : Str.ofString "" = h_nil := by kernel_rfl
theorem q.s_Cursor : Str.ofString "Cursor" = s_Cursor := by kernel_rfl
theorem q.s_expression : Str.ofString "expression" = s_expression := by kernel_rfl
theorem q.s_a : Str.ofString "a" = s_a := by kernel_rfl
theorem q.s_minus : Str.ofString "minus" = s_minus := by kernel_rfl
theorem q.s_one : Str.ofString "one" = s_one := by kernel_rfl
theorem q.h_26 : Str.ofString "1" = h_26 := by kernel_rfl
theorem q.s_cons : Str.ofString "cons" = s_cons := by kernel_rfl
theorem q.s_tick : Str.ofString "tick" = s_tick := by kernel_rfl
theorem q.l_read : Str.ofString "_law_read" = l_read := by kernel_rfl
theorem q.s_less : Str.ofString "less" = s_less := by kernel_rfl
theorem q.s_more : Str.ofString "more" = s_more := by kernel_rfl
theorem q.h_27 : Str.ofString "+" = h_27 := by kernel_rfl
theorem q.l_turned : Str.ofString "_law_turned" = l_turned := by kernel_rfl
theorem q.s_wrong : Str.ofString "wrong" = s_wrong := by kernel_rfl
theorem q.s_b : Str.ofString "b" = s_b := by kernel_rfl
theorem q.s_f : Str.ofString "f" = s_f := by kernel_rfl
theorem q.h_28 : Str.ofString "M.a" = h_28 := by kernel_rfl
theorem q.s_one_wrong : Str.ofString "one_wrong" = s_one_wrong := by kernel_rfl
theorem q.l_fixed_right : Str.ofString "_law_fixed_right" = l_fixed_right := by kernel_rfl
theorem q.s_max : Str.ofString "max" = s_max := by kernel_rfl
theorem q.l_brook : Str.ofString "_law_brook" = l_brook := by kernel_rfl
theorem q.s_LazyError : Str.ofString "LazyError" = s_LazyError := by kernel_rfl
theorem q.s_law : Str.ofString "law" = s_law := by kernel_rfl
noncomputable abbrev p_x_wall : Arguments := by refine' (?f : (p : Arguments) → fA (sm 0) = p → Arguments) _ ?h; (case h => conv => (lhs; whnf; simp only [q.s_k])); (case f => exact fun p _ => p)
noncomputable abbrev b_x_wall : List Stmt := by refine' (?f : (p : List Stmt) → fB (sm 0) = p → List Stmt) _ ?h; (case h => conv => (lhs; whnf)); (case f => exact fun p _ => p)
noncomputable abbrev e_x_wall : Scope := by refine' (?f : (p : Scope) → fS (sm 0) = p → Scope) _ ?h; (case h => conv => (lhs; whnf; simp only [q.s_k])); (case f => exact fun p _ => p)
noncomputable abbrev c_0 : Stmt := .FunctionDef h_0 p_x_wall b_x_wall [] none [] e_x_wall none h_0 ⟨1,0,3,12⟩
noncomputable abbrev c_1 : Stmt := by refine' (?f : (p : Stmt) → sm 1 = p → Stmt) _ ?h; (case h => conv => (lhs; whnf; simp only [q.h_1,q.t1])); (case f => exact fun p _ => p)
noncomputable abbrev p_LazyErrord_initd : Arguments := by refine' (?f : (p : Arguments) → fA (sn 2 0) = p → Arguments) _ ?h; (case h => conv => (lhs; whnf; simp only [q.s_self,q.s_message,q.s_place])); (case f => exact fun p _ => p)
noncomputable abbrev b_LazyErrord_initd : List Stmt := by refine' (?f : (p : List Stmt) → fB (sn 2 0) = p → List Stmt) _ ?h; (case h => conv => (lhs; whnf; simp only [q.s_Exception,q.h_2,q.s_self,q.s_message,q.s_place])); (case f => exact fun p _ => p)
noncomputable abbrev e_LazyErrord_initd : Scope := by refine' (?f : (p : Scope) → fS (sn 2 0) = p → Scope) _ ?h; (case h => conv => (lhs; whnf; simp only [q.s_self,q.s_message,q.s_place,q.s_Exception])); (case f => exact fun p _ => p)
noncomputable abbrev c_2 : Stmt := .ClassDef s_LazyError [.Name s_Exception ⟨5,16,5,25⟩] [] [.FunctionDef h_2 p_LazyErrord_initd b_LazyErrord_initd [] none [] e_LazyErrord_initd none h_2 ⟨7,4,10,26⟩] [] [] ⟨.class,[(h_2,.local)],false,false,[]⟩ none s_LazyError [s_message,s_place] ⟨5,0,10,26⟩
noncomputable abbrev c_3 : Stmt := .ClassDef s_ReadError [.Name s_LazyError ⟨11,16,11,25⟩] [] [.Pass ⟨12,4,12,8⟩] [] [] ⟨.class,[],false,false,[]⟩ none s_ReadError [] ⟨11,0,12,8⟩
noncomputable abbrev c_4 : Stmt := by refine' (?f : (p : Stmt) → sm 4 = p → Stmt) _ ?h; (case h => conv => (lhs; whnf; simp only [q.h_1,q.t2])); (case f => exact fun p _ => p)
noncomputable abbrev c_5 : Stmt := by refine' (?f : (p : Stmt) → sm 5 = p → Stmt) _ ?h; (case h => conv => (lhs; whnf; simp only [q.s_VIRTUAL,q.s_virtual])); (case f => exact fun p _ => p)
noncomputable abbrev p_is_virtual : Arguments := by refine' (?f : (p : Arguments) → fA (sm 6) = p → Arguments) _ ?h; (case h => conv => (lhs; whnf; simp only [q.s_word])); (case f => exact fun p _ => p)
noncomputable abbrev b_is_virtual : List Stmt := by refine' (?f : (p : List Stmt) → fB (sm 6) = p → List Stmt) _ ?h; (case h => conv => (lhs; whnf; simp only [q.s_word,q.s_kind,q.s_special,q.s_value,q.s_VIRTUAL])); (case f => exact fun p _ => p)
noncomputable abbrev e_is_virtual : Scope := by refine' (?f : (p : Scope) → fS (sm 6) = p → Scope) _ ?h; (case h => conv => (lhs; whnf; simp only [q.s_word,q.s_VIRTUAL])); (case f => exact fun p _ => p)
noncomputable abbrev c_6 : Stmt := .FunctionDef s_is_virtual p_is_virtual b_is_virtual [] none [] e_is_virtual none s_is_virtual ⟨15,0,16,59⟩
noncomputable abbrev c_7 : Stmt := by refine' (?f : (p : Stmt) → sm 7 = p → Stmt) _ ?h; (case h => conv => (lhs; whnf; simp only [q.h_1,q.t3])); (case f => exact fun p _ => p)
noncomputable abbrev c_8 : Stmt := by refine' (?f : (p : Stmt) → sm 8 = p → Stmt) _ ?h; (case h => conv => (lhs; whnf; simp only [q.s_CLOSING_KEYS,q.s_in,q.s_of,q.s_then,q.s_else])); (case f => exact fun p _ => p)
noncomputable abbrev c_9 : Stmt := by refine' (?f : (p : Stmt) → sm 9 = p → Stmt) _ ?h; (case h => conv => (lhs; whnf; simp only [q.s_CLOSING_SIGNS,q.h_3,q.h_4,q.h_5,q.h_6])); (case f => exact fun p _ => p)
noncomputable abbrev p_full_name : Arguments := by refine' (?f : (p : Arguments) → fA (sm 10) = p → Arguments) _ ?h; (case h => conv => (lhs; whnf; simp only [q.s_word])); (case f => exact fun p _ => p)
noncomputable abbrev b_full_name : List Stmt := by refine' (?f : (p : List Stmt) → fB (sm 10) = p → List Stmt) _ ?h; (case h => conv => (lhs; whnf; simp only [q.s_word,q.s_value,q.s_text,q.h_7])); (case f => exact fun p _ => p)
noncomputable abbrev e_full_name : Scope := by refine' (?f : (p : Scope) → fS (sm 10) = p → Scope) _ ?h; (case h => conv => (lhs; whnf; simp only [q.s_word])); (case f => exact fun p _ => p)
noncomputable abbrev c_10 : Stmt := .FunctionDef s_full_name p_full_name b_full_name [] none [] e_full_name none s_full_name ⟨20,0,21,76⟩
noncomputable abbrev p_Cursord_initd : Arguments := by refine' (?f : (p : Arguments) → fA (sn 11 0) = p → Arguments) _ ?h; (case h => conv => (lhs; whnf; simp only [q.s_self,q.s_layout])); (case f => exact fun p _ => p)
noncomputable abbrev b_Cursord_initd : List Stmt := by refine' (?f : (p : List Stmt) → fB (sn 11 0) = p → List Stmt) _ ?h; (case h => conv => (lhs; whnf; simp only [q.s_self,q.s_layout,q.s_last])); (case f => exact fun p _ => p)
noncomputable abbrev e_Cursord_initd : Scope := by refine' (?f : (p : Scope) → fS (sn 11 0) = p → Scope) _ ?h; (case h => conv => (lhs; whnf; simp only [q.s_self,q.s_layout])); (case f => exact fun p _ => p)
noncomputable abbrev p_Cursor_peek : Arguments := by refine' (?f : (p : Arguments) → fA (sn 11 1) = p → Arguments) _ ?h; (case h => conv => (lhs; whnf; simp only [q.s_self])); (case f => exact fun p _ => p)
noncomputable abbrev b_Cursor_peek : List Stmt := by refine' (?f : (p : List Stmt) → fB (sn 11 1) = p → List Stmt) _ ?h; (case h => conv => (lhs; whnf; simp only [q.s_self,q.s_layout,q.s_peek])); (case f => exact fun p _ => p)
noncomputable abbrev e_Cursor_peek : Scope := by refine' (?f : (p : Scope) → fS (sn 11 1) = p → Scope) _ ?h; (case h => conv => (lhs; whnf; simp only [q.s_self])); (case f => exact fun p _ => p)
noncomputable abbrev p_Cursor_next : Arguments := by refine' (?f : (p : Arguments) → fA (sn 11 2) = p → Arguments) _ ?h; (case h => conv => (lhs; whnf; simp only [q.s_self])); (case f => exact fun p _ => p)
noncomputable abbrev b_Cursor_next : List Stmt := by refine' (?f : (p : List Stmt) → fB (sn 11 2) = p → List Stmt) _ ?h; (case h => conv => (lhs; whnf; simp only [q.s_self,q.s_last,q.s_layout,q.s_next])); (case f => exact fun p _ => p)
noncomputable abbrev p_Cursor_place : Arguments := by refine' (?f : (p : Arguments) → fA (sn 11 3) = p → Arguments) _ ?h; (case h => conv => (lhs; whnf; simp only [q.s_self])); (case f => exact fun p _ => p)
noncomputable abbrev b_Cursor_place : List Stmt := by refine' (?f : (p : List Stmt) → fB (sn 11 3) = p → List Stmt) _ ?h; (case h => conv => (lhs; whnf; simp only [q.s_self,q.s_layout,q.s_peek,q.s_place])); (case f => exact fun p _ => p)
noncomputable abbrev p_Cursor_behind : Arguments := by refine' (?f : (p : Arguments) → fA (sn 11 4) = p → Arguments) _ ?h; (case h => conv => (lhs; whnf; simp only [q.s_self])); (case f => exact fun p _ => p)
noncomputable abbrev b_Cursor_behind : List Stmt := by refine' (?f : (p : List Stmt) → fB (sn 11 4) = p → List Stmt) _ ?h; (case h => conv => (lhs; whnf; simp only [q.s_self,q.s_layout,q.s_words,q.s_min,q.s_at,q.s_len])); (case f => exact fun p _ => p)
noncomputable abbrev e_Cursor_behind : Scope := by refine' (?f : (p : Scope) → fS (sn 11 4) = p → Scope) _ ?h; (case h => conv => (lhs; whnf; simp only [q.s_self,q.s_min,q.s_len])); (case f => exact fun p _ => p)
noncomputable abbrev p_Cursor_is_joined : Arguments := by refine' (?f : (p : Arguments) → fA (sn 11 5) = p → Arguments) _ ?h; (case h => conv => (lhs; whnf; simp only [q.s_self])); (case f => exact fun p _ => p)
noncomputable abbrev b_Cursor_is_joined : List Stmt := by refine' (?f : (p : List Stmt) → fB (sn 11 5) = p → List Stmt) _ ?h; (case h => conv => (lhs; whnf; simp only [q.h_0])); (case f => exact fun p _ => p)
noncomputable abbrev e_Cursor_is_joined : Scope := by refine' (?f : (p : Scope) → fS (sn 11 5) = p → Scope) _ ?h; (case h => conv => (lhs; whnf; simp only [q.s_self,q.h_0])); (case f => exact fun p _ => p)
noncomputable abbrev p_Cursor_is_at : Arguments := by refine' (?f : (p : Arguments) → fA (sn 11 6) = p → Arguments) _ ?h; (case h => conv => (lhs; whnf; simp only [q.s_self,q.s_kind,q.s_text])); (case f => exact fun p _ => p)
noncomputable abbrev b_Cursor_is_at : List Stmt := by refine' (?f : (p : List Stmt) → fB (sn 11 6) = p → List Stmt) _ ?h; (case h => conv => (lhs; whnf; simp only [q.s_word,q.s_self,q.s_layout,q.s_peek,q.s_kind,q.s_text])); (case f => exact fun p _ => p)
noncomputable abbrev e_Cursor_is_at : Scope := by refine' (?f : (p : Scope) → fS (sn 11 6) = p → Scope) _ ?h; (case h => conv => (lhs; whnf; simp only [q.s_self,q.s_kind,q.s_text,q.s_word])); (case f => exact fun p _ => p)
noncomputable abbrev p_Cursor_take : Arguments := by refine' (?f : (p : Arguments) → fA (sn 11 7) = p → Arguments) _ ?h; (case h => conv => (lhs; whnf; simp only [q.s_self,q.s_kind,q.s_text])); (case f => exact fun p _ => p)
noncomputable abbrev b_Cursor_take : List Stmt := by refine' (?f : (p : List Stmt) → fB (sn 11 7) = p → List Stmt) _ ?h; (case h => conv => (lhs; whnf; simp only [q.s_self,q.s_is_at,q.s_kind,q.s_text,q.s_next])); (case f => exact fun p _ => p)
noncomputable abbrev e_Cursor_take : Scope := by refine' (?f : (p : Scope) → fS (sn 11 7) = p → Scope) _ ?h; (case h => conv => (lhs; whnf; simp only [q.s_self,q.s_kind,q.s_text])); (case f => exact fun p _ => p)
noncomputable abbrev p_Cursor_want : Arguments := by refine' (?f : (p : Arguments) → fA (sn 11 8) = p → Arguments) _ ?h; (case h => conv => (lhs; whnf; simp only [q.s_self,q.s_kind,q.s_text])); (case f => exact fun p _ => p)
noncomputable abbrev b_Cursor_want : List Stmt := by refine' (?f : (p : List Stmt) → fB (sn 11 8) = p → List Stmt) _ ?h; (case h => conv => (lhs; whnf; simp only [q.s_self,q.s_is_at,q.s_kind,q.s_text,q.s_refuse,q.t4,q.s_next])); (case f => exact fun p _ => p)
noncomputable abbrev p_Cursor_refuse : Arguments := by refine' (?f : (p : Arguments) → fA (sn 11 9) = p → Arguments) _ ?h; (case h => conv => (lhs; whnf; simp only [q.s_self,q.s_message])); (case f => exact fun p _ => p)
noncomputable abbrev b_Cursor_refuse : List Stmt := by refine' (?f : (p : List Stmt) → fB (sn 11 9) = p → List Stmt) _ ?h; (case h => conv => (lhs; whnf; simp only [q.s_word,q.s_self,q.s_layout,q.s_peek,q.s_told,q.s_kind,q.s_end,q.t5,q.s_text,q.s_ReadError,q.s_message,q.t6,q.s_place])); (case f => exact fun p _ => p)
noncomputable abbrev e_Cursor_refuse : Scope := by refine' (?f : (p : Scope) → fS (sn 11 9) = p → Scope) _ ?h; (case h => conv => (lhs; whnf; simp only [q.s_self,q.s_message,q.s_word,q.s_told,q.s_ReadError])); (case f => exact fun p _ => p)
noncomputable abbrev p_Cursor_block : Arguments := by refine' (?f : (p : Arguments) → fA (sn 11 10) = p → Arguments) _ ?h; (case h => conv => (lhs; whnf; simp only [q.s_self,q.s_read_one])); (case f => exact fun p _ => p)
noncomputable abbrev b_Cursor_block : List Stmt := by refine' (?f : (p : List Stmt) → fB (sn 11 10) = p → List Stmt) _ ?h; (case h => conv => (lhs; whnf; simp only [q.s_is_laid,q.s_found,q.s_is_virtual,q.s_self,q.s_want,q.s_special,q.h_8,q.s_take,q.h_9,q.s_is_end_here,q.s_closes,q.s_append,q.s_read_one,q.s_is_at,q.s_refuse,q.t7])); (case f => exact fun p _ => p)
noncomputable abbrev e_Cursor_block : Scope := by refine' (?f : (p : Scope) → fS (sn 11 10) = p → Scope) _ ?h; (case h => conv => (lhs; whnf; simp only [q.s_self,q.s_read_one,q.s_is_laid,q.s_found,q.s_is_virtual])); (case f => exact fun p _ => p)
noncomputable abbrev p_Cursor_is_end_here : Arguments := by refine' (?f : (p : Arguments) → fA (sn 11 11) = p → Arguments) _ ?h; (case h => conv => (lhs; whnf; simp only [q.s_self,q.s_is_laid])); (case f => exact fun p _ => p)
noncomputable abbrev b_Cursor_is_end_here : List Stmt := by refine' (?f : (p : List Stmt) → fB (sn 11 11) = p → List Stmt) _ ?h; (case h => conv => (lhs; whnf; simp only [q.s_word,q.s_self,q.s_layout,q.s_peek,q.s_kind,q.s_special,q.s_text,q.s_CLOSING_SIGNS,q.s_end,q.s_is_laid,q.s_key,q.s_CLOSING_KEYS])); (case f => exact fun p _ => p)
noncomputable abbrev e_Cursor_is_end_here : Scope := by refine' (?f : (p : Scope) → fS (sn 11 11) = p → Scope) _ ?h; (case h => conv => (lhs; whnf; simp only [q.s_self,q.s_is_laid,q.s_word,q.s_CLOSING_SIGNS,q.s_CLOSING_KEYS])); (case f => exact fun p _ => p)
noncomputable abbrev p_Cursor_closes : Arguments := by refine' (?f : (p : Arguments) → fA (sn 11 12) = p → Arguments) _ ?h; (case h => conv => (lhs; whnf; simp only [q.s_self,q.s_is_laid])); (case f => exact fun p _ => p)
noncomputable abbrev b_Cursor_closes : List Stmt := by refine' (?f : (p : List Stmt) → fB (sn 11 12) = p → List Stmt) _ ?h; (case h => conv => (lhs; whnf; simp only [q.s_word,q.s_self,q.s_layout,q.s_peek,q.s_is_word,q.s_special,q.h_6,q.s_is_virtual,q.s_is_laid,q.s_next,q.s_close_by_error])); (case f => exact fun p _ => p)
noncomputable abbrev e_Cursor_closes : Scope := by refine' (?f : (p : Scope) → fS (sn 11 12) = p → Scope) _ ?h; (case h => conv => (lhs; whnf; simp only [q.s_self,q.s_is_laid,q.s_word,q.s_is_virtual])); (case f => exact fun p _ => p)
noncomputable abbrev c_11 : Stmt := .ClassDef s_Cursor [] [] [.FunctionDef h_2 p_Cursord_initd b_Cursord_initd [] none [] e_Cursord_initd none h_2 ⟨24,4,26,24⟩,.FunctionDef s_peek p_Cursor_peek b_Cursor_peek [] none [] e_Cursor_peek none s_peek ⟨28,4,29,33⟩,.FunctionDef s_next p_Cursor_next b_Cursor_next [] none [] e_Cursor_peek none s_next ⟨31,4,33,24⟩,.FunctionDef s_place p_Cursor_place b_Cursor_place [] none [] e_Cursor_peek none s_place ⟨35,4,36,41⟩,.FunctionDef s_behind p_Cursor_behind b_Cursor_behind [] none [] e_Cursor_behind none s_behind ⟨38,4,39,85⟩,.FunctionDef s_is_joined p_Cursor_is_joined b_Cursor_is_joined [] none [] e_Cursor_is_joined none s_is_joined ⟨41,4,42,16⟩,.FunctionDef s_is_at p_Cursor_is_at b_Cursor_is_at [] none [] e_Cursor_is_at none s_is_at ⟨44,4,46,72⟩,.FunctionDef s_take p_Cursor_take b_Cursor_take [] none [] e_Cursor_take none s_take ⟨48,4,52,19⟩,.FunctionDef s_want p_Cursor_want b_Cursor_want [] none [] e_Cursor_take none s_want ⟨54,4,57,26⟩,.FunctionDef s_refuse p_Cursor_refuse b_Cursor_refuse [] none [] e_Cursor_refuse none s_refuse ⟨59,4,62,63⟩,.FunctionDef s_block p_Cursor_block b_Cursor_block [] none [] e_Cursor_block none s_block ⟨64,4,75,28⟩,.FunctionDef s_is_end_here p_Cursor_is_end_here b_Cursor_is_end_here [] none [] e_Cursor_is_end_here none s_is_end_here ⟨77,4,81,77⟩,.FunctionDef s_closes p_Cursor_closes b_Cursor_closes [] none [] e_Cursor_closes none s_closes ⟨83,4,88,55⟩] [] [] ⟨.class,[(h_2,.local),(s_peek,.local),(s_next,.local),(s_place,.local),(s_behind,.local),(s_is_joined,.local),(s_is_at,.local),(s_take,.local),(s_want,.local),(s_refuse,.local),(s_block,.local),(s_is_end_here,.local),(s_closes,.local)],false,false,[]⟩ none s_Cursor [s_last,s_layout] ⟨22,0,88,55⟩
noncomputable abbrev c_12 : Stmt := by refine' (?f : (p : Stmt) → sm 12 = p → Stmt) _ ?h; (case h => conv => (lhs; whnf; simp only [q.h_1,q.t8])); (case f => exact fun p _ => p)
noncomputable abbrev p_rows_of : Arguments := by refine' (?f : (p : Arguments) → fA (sm 13) = p → Arguments) _ ?h; (case h => conv => (lhs; whnf; simp only [q.s_nodes])); (case f => exact fun p _ => p)
noncomputable abbrev b_rows_of : List Stmt := by refine' (?f : (p : List Stmt) → fB (sm 13) = p → List Stmt) _ ?h; (case h => conv => (lhs; whnf; simp only [q.s_tuple,q.s_node,q.s_row,q.s_nodes,q.t9])); (case f => exact fun p _ => p)
noncomputable abbrev e_rows_of : Scope := by refine' (?f : (p : Scope) → fS (sm 13) = p → Scope) _ ?h; (case h => conv => (lhs; whnf; simp only [q.s_nodes,q.s_tuple,q.t10,q.s_node])); (case f => exact fun p _ => p)
noncomputable abbrev c_13 : Stmt := .FunctionDef s_rows_of p_rows_of b_rows_of [] none [] e_rows_of none s_rows_of ⟨90,0,91,48⟩
noncomputable abbrev p_Noded_initd : Arguments := by refine' (?f : (p : Arguments) → fA (sn 14 0) = p → Arguments) _ ?h; (case h => conv => (lhs; whnf; simp only [q.s_self,q.s_place])); (case f => exact fun p _ => p)
noncomputable abbrev b_Noded_initd : List Stmt := by refine' (?f : (p : List Stmt) → fB (sn 14 0) = p → List Stmt) _ ?h; (case h => conv => (lhs; whnf; simp only [q.s_self,q.s_place])); (case f => exact fun p _ => p)
noncomputable abbrev e_Noded_initd : Scope := by refine' (?f : (p : Scope) → fS (sn 14 0) = p → Scope) _ ?h; (case h => conv => (lhs; whnf; simp only [q.s_self,q.s_place])); (case f => exact fun p _ => p)
noncomputable abbrev p_Node_row : Arguments := by refine' (?f : (p : Arguments) → fA (sn 14 1) = p → Arguments) _ ?h; (case h => conv => (lhs; whnf; simp only [q.s_self])); (case f => exact fun p _ => p)
noncomputable abbrev b_Node_row : List Stmt := by refine' (?f : (p : List Stmt) → fB (sn 14 1) = p → List Stmt) _ ?h; (case h => conv => (lhs; whnf; simp only [q.s_node])); (case f => exact fun p _ => p)
noncomputable abbrev c_14 : Stmt := .ClassDef s_Node [] [] [.FunctionDef h_2 p_Noded_initd b_Noded_initd [] none [] e_Noded_initd none h_2 ⟨94,4,95,26⟩,.FunctionDef s_row p_Node_row b_Node_row [] none [] e_Cursor_peek none s_row ⟨97,4,98,24⟩] [] [] ⟨.class,[(h_2,.local),(s_row,.local)],false,false,[]⟩ none s_Node [s_place] ⟨92,0,98,24⟩
noncomputable abbrev p_Vard_initd : Arguments := by refine' (?f : (p : Arguments) → fA (sn 15 0) = p → Arguments) _ ?h; (case h => conv => (lhs; whnf; simp only [q.s_self,q.s_name,q.s_place])); (case f => exact fun p _ => p)
noncomputable abbrev b_Vard_initd : List Stmt := by refine' (?f : (p : List Stmt) → fB (sn 15 0) = p → List Stmt) _ ?h; (case h => conv => (lhs; whnf; simp only [q.s_Node,q.h_2,q.s_self,q.s_place,q.s_name,q.s_uses])); (case f => exact fun p _ => p)
noncomputable abbrev e_Vard_initd : Scope := by refine' (?f : (p : Scope) → fS (sn 15 0) = p → Scope) _ ?h; (case h => conv => (lhs; whnf; simp only [q.s_self,q.s_name,q.s_place,q.s_Node])); (case f => exact fun p _ => p)
noncomputable abbrev p_Var_row : Arguments := by refine' (?f : (p : Arguments) → fA (sn 15 1) = p → Arguments) _ ?h; (case h => conv => (lhs; whnf; simp only [q.s_self])); (case f => exact fun p _ => p)
noncomputable abbrev b_Var_row : List Stmt := by refine' (?f : (p : List Stmt) → fB (sn 15 1) = p → List Stmt) _ ?h; (case h => conv => (lhs; whnf; simp only [q.s_var,q.s_self,q.s_name])); (case f => exact fun p _ => p)
noncomputable abbrev c_15 : Stmt := .ClassDef s_Var [.Name s_Node ⟨99,10,99,14⟩] [] [.FunctionDef h_2 p_Vard_initd b_Vard_initd [] none [] e_Vard_initd none h_2 ⟨101,4,104,22⟩,.FunctionDef s_row p_Var_row b_Var_row [] none [] e_Cursor_peek none s_row ⟨106,4,107,33⟩] [] [] ⟨.class,[(h_2,.local),(s_row,.local)],false,false,[]⟩ none s_Var [s_name,s_uses] ⟨99,0,107,33⟩
noncomputable abbrev p_Cond_initd : Arguments := by refine' (?f : (p : Arguments) → fA (sn 16 0) = p → Arguments) _ ?h; (case h => conv => (lhs; whnf; simp only [q.s_self,q.s_name,q.s_place])); (case f => exact fun p _ => p)
noncomputable abbrev b_Cond_initd : List Stmt := by refine' (?f : (p : List Stmt) → fB (sn 16 0) = p → List Stmt) _ ?h; (case h => conv => (lhs; whnf; simp only [q.s_Node,q.h_2,q.s_self,q.s_place,q.s_name,q.s_uses])); (case f => exact fun p _ => p)
noncomputable abbrev p_Con_row : Arguments := by refine' (?f : (p : Arguments) → fA (sn 16 1) = p → Arguments) _ ?h; (case h => conv => (lhs; whnf; simp only [q.s_self])); (case f => exact fun p _ => p)
noncomputable abbrev b_Con_row : List Stmt := by refine' (?f : (p : List Stmt) → fB (sn 16 1) = p → List Stmt) _ ?h; (case h => conv => (lhs; whnf; simp only [q.s_con,q.s_self,q.s_name])); (case f => exact fun p _ => p)
noncomputable abbrev c_16 : Stmt := .ClassDef s_Con [.Name s_Node ⟨108,10,108,14⟩] [] [.FunctionDef h_2 p_Cond_initd b_Cond_initd [] none [] e_Vard_initd none h_2 ⟨110,4,113,22⟩,.FunctionDef s_row p_Con_row b_Con_row [] none [] e_Cursor_peek none s_row ⟨115,4,116,33⟩] [] [] ⟨.class,[(h_2,.local),(s_row,.local)],false,false,[]⟩ none s_Con [s_name,s_uses] ⟨108,0,116,33⟩
noncomputable abbrev p_Litd_initd : Arguments := by refine' (?f : (p : Arguments) → fA (sn 17 0) = p → Arguments) _ ?h; (case h => conv => (lhs; whnf; simp only [q.s_self,q.s_kind,q.s_value,q.s_place])); (case f => exact fun p _ => p)
noncomputable abbrev b_Litd_initd : List Stmt := by refine' (?f : (p : List Stmt) → fB (sn 17 0) = p → List Stmt) _ ?h; (case h => conv => (lhs; whnf; simp only [q.s_Node,q.h_2,q.s_self,q.s_place,q.s_kind,q.s_value])); (case f => exact fun p _ => p)
noncomputable abbrev e_Litd_initd : Scope := by refine' (?f : (p : Scope) → fS (sn 17 0) = p → Scope) _ ?h; (case h => conv => (lhs; whnf; simp only [q.s_self,q.s_kind,q.s_value,q.s_place,q.s_Node])); (case f => exact fun p _ => p)
noncomputable abbrev p_Lit_row : Arguments := by refine' (?f : (p : Arguments) → fA (sn 17 1) = p → Arguments) _ ?h; (case h => conv => (lhs; whnf; simp only [q.s_self])); (case f => exact fun p _ => p)
noncomputable abbrev b_Lit_row : List Stmt := by refine' (?f : (p : List Stmt) → fB (sn 17 1) = p → List Stmt) _ ?h; (case h => conv => (lhs; whnf; simp only [q.s_lit,q.s_self,q.s_kind,q.s_value])); (case f => exact fun p _ => p)
noncomputable abbrev c_17 : Stmt := .ClassDef s_Lit [.Name s_Node ⟨117,10,117,14⟩] [] [.FunctionDef h_2 p_Litd_initd b_Litd_initd [] none [] e_Litd_initd none h_2 ⟨119,4,122,26⟩,.FunctionDef s_row p_Lit_row b_Lit_row [] none [] e_Cursor_peek none s_row ⟨124,4,125,45⟩] [] [] ⟨.class,[(h_2,.local),(s_row,.local)],false,false,[]⟩ none s_Lit [s_kind,s_value] ⟨117,0,125,45⟩
noncomputable abbrev p_Appd_initd : Arguments := by refine' (?f : (p : Arguments) → fA (sn 18 0) = p → Arguments) _ ?h; (case h => conv => (lhs; whnf; simp only [q.s_self,q.s_fun,q.s_arg,q.s_place])); (case f => exact fun p _ => p)
noncomputable abbrev b_Appd_initd : List Stmt := by refine' (?f : (p : List Stmt) → fB (sn 18 0) = p → List Stmt) _ ?h; (case h => conv => (lhs; whnf; simp only [q.s_Node,q.h_2,q.s_self,q.s_place,q.s_fun,q.s_arg])); (case f => exact fun p _ => p)
noncomputable abbrev e_Appd_initd : Scope := by refine' (?f : (p : Scope) → fS (sn 18 0) = p → Scope) _ ?h; (case h => conv => (lhs; whnf; simp only [q.s_self,q.s_fun,q.s_arg,q.s_place,q.s_Node])); (case f => exact fun p _ => p)
noncomputable abbrev p_App_row : Arguments := by refine' (?f : (p : Arguments) → fA (sn 18 1) = p → Arguments) _ ?h; (case h => conv => (lhs; whnf; simp only [q.s_self])); (case f => exact fun p _ => p)
noncomputable abbrev b_App_row : List Stmt := by refine' (?f : (p : List Stmt) → fB (sn 18 1) = p → List Stmt) _ ?h; (case h => conv => (lhs; whnf; simp only [q.s_app,q.s_self,q.s_fun,q.s_row,q.s_arg])); (case f => exact fun p _ => p)
noncomputable abbrev c_18 : Stmt := .ClassDef s_App [.Name s_Node ⟨126,10,126,14⟩] [] [.FunctionDef h_2 p_Appd_initd b_Appd_initd [] none [] e_Appd_initd none h_2 ⟨128,4,131,22⟩,.FunctionDef s_row p_App_row b_App_row [] none [] e_Cursor_peek none s_row ⟨133,4,134,54⟩] [] [] ⟨.class,[(h_2,.local),(s_row,.local)],false,false,[]⟩ none s_App [s_arg,s_fun] ⟨126,0,134,54⟩
noncomputable abbrev p_Opd_initd : Arguments := by refine' (?f : (p : Arguments) → fA (sn 19 0) = p → Arguments) _ ?h; (case h => conv => (lhs; whnf; simp only [q.s_self,q.s_name,q.s_is_con,q.s_place])); (case f => exact fun p _ => p)
noncomputable abbrev b_Opd_initd : List Stmt := by refine' (?f : (p : List Stmt) → fB (sn 19 0) = p → List Stmt) _ ?h; (case h => conv => (lhs; whnf; simp only [q.s_Node,q.h_2,q.s_self,q.s_place,q.s_name,q.s_is_con])); (case f => exact fun p _ => p)
noncomputable abbrev e_Opd_initd : Scope := by refine' (?f : (p : Scope) → fS (sn 19 0) = p → Scope) _ ?h; (case h => conv => (lhs; whnf; simp only [q.s_self,q.s_name,q.s_is_con,q.s_place,q.s_Node])); (case f => exact fun p _ => p)
noncomputable abbrev p_Op_row : Arguments := by refine' (?f : (p : Arguments) → fA (sn 19 1) = p → Arguments) _ ?h; (case h => conv => (lhs; whnf; simp only [q.s_self])); (case f => exact fun p _ => p)
noncomputable abbrev b_Op_row : List Stmt := by refine' (?f : (p : List Stmt) → fB (sn 19 1) = p → List Stmt) _ ?h; (case h => conv => (lhs; whnf; simp only [q.s_op,q.s_self,q.s_name,q.s_is_con])); (case f => exact fun p _ => p)
noncomputable abbrev c_19 : Stmt := .ClassDef s_Op [.Name s_Node ⟨135,9,135,13⟩] [] [.FunctionDef h_2 p_Opd_initd b_Opd_initd [] none [] e_Opd_initd none h_2 ⟨137,4,140,28⟩,.FunctionDef s_row p_Op_row b_Op_row [] none [] e_Cursor_peek none s_row ⟨142,4,143,45⟩] [] [] ⟨.class,[(h_2,.local),(s_row,.local)],false,false,[]⟩ none s_Op [s_is_con,s_name] ⟨135,0,143,45⟩
noncomputable abbrev p_Infixd_initd : Arguments := by refine' (?f : (p : Arguments) → fA (sn 20 0) = p → Arguments) _ ?h; (case h => conv => (lhs; whnf; simp only [q.s_self,q.s_items,q.s_place])); (case f => exact fun p _ => p)
noncomputable abbrev b_Infixd_initd : List Stmt := by refine' (?f : (p : List Stmt) → fB (sn 20 0) = p → List Stmt) _ ?h; (case h => conv => (lhs; whnf; simp only [q.s_Node,q.h_2,q.s_self,q.s_place,q.s_items])); (case f => exact fun p _ => p)
noncomputable abbrev e_Infixd_initd : Scope := by refine' (?f : (p : Scope) → fS (sn 20 0) = p → Scope) _ ?h; (case h => conv => (lhs; whnf; simp only [q.s_self,q.s_items,q.s_place,q.s_Node])); (case f => exact fun p _ => p)
noncomputable abbrev p_Infix_row : Arguments := by refine' (?f : (p : Arguments) → fA (sn 20 1) = p → Arguments) _ ?h; (case h => conv => (lhs; whnf; simp only [q.s_self])); (case f => exact fun p _ => p)
noncomputable abbrev b_Infix_row : List Stmt := by refine' (?f : (p : List Stmt) → fB (sn 20 1) = p → List Stmt) _ ?h; (case h => conv => (lhs; whnf; simp only [q.s_infix,q.s_rows_of,q.s_self,q.s_items])); (case f => exact fun p _ => p)
noncomputable abbrev e_Infix_row : Scope := by refine' (?f : (p : Scope) → fS (sn 20 1) = p → Scope) _ ?h; (case h => conv => (lhs; whnf; simp only [q.s_self,q.s_rows_of])); (case f => exact fun p _ => p)
noncomputable abbrev c_20 : Stmt := .ClassDef s_Infix [.Name s_Node ⟨144,12,144,16⟩] [] [.FunctionDef h_2 p_Infixd_initd b_Infixd_initd [] none [] e_Infixd_initd none h_2 ⟨146,4,148,26⟩,.FunctionDef s_row p_Infix_row b_Infix_row [] none [] e_Infix_row none s_row ⟨150,4,151,45⟩] [] [] ⟨.class,[(h_2,.local),(s_row,.local)],false,false,[]⟩ none s_Infix [s_items] ⟨144,0,151,45⟩
noncomputable abbrev p_Tupled_initd : Arguments := by refine' (?f : (p : Arguments) → fA (sn 21 0) = p → Arguments) _ ?h; (case h => conv => (lhs; whnf; simp only [q.s_self,q.s_items,q.s_place])); (case f => exact fun p _ => p)
noncomputable abbrev b_Tupled_initd : List Stmt := by refine' (?f : (p : List Stmt) → fB (sn 21 0) = p → List Stmt) _ ?h; (case h => conv => (lhs; whnf; simp only [q.s_Node,q.h_2,q.s_self,q.s_place,q.s_items])); (case f => exact fun p _ => p)
noncomputable abbrev p_Tuple_row : Arguments := by refine' (?f : (p : Arguments) → fA (sn 21 1) = p → Arguments) _ ?h; (case h => conv => (lhs; whnf; simp only [q.s_self])); (case f => exact fun p _ => p)
noncomputable abbrev b_Tuple_row : List Stmt := by refine' (?f : (p : List Stmt) → fB (sn 21 1) = p → List Stmt) _ ?h; (case h => conv => (lhs; whnf; simp only [q.s_tuple,q.s_rows_of,q.s_self,q.s_items])); (case f => exact fun p _ => p)
noncomputable abbrev c_21 : Stmt := .ClassDef s_Tuple [.Name s_Node ⟨152,12,152,16⟩] [] [.FunctionDef h_2 p_Tupled_initd b_Tupled_initd [] none [] e_Infixd_initd none h_2 ⟨154,4,156,26⟩,.FunctionDef s_row p_Tuple_row b_Tuple_row [] none [] e_Infix_row none s_row ⟨158,4,159,45⟩] [] [] ⟨.class,[(h_2,.local),(s_row,.local)],false,false,[]⟩ none s_Tuple [s_items] ⟨152,0,159,45⟩
noncomputable abbrev p_ListOfd_initd : Arguments := by refine' (?f : (p : Arguments) → fA (sn 22 0) = p → Arguments) _ ?h; (case h => conv => (lhs; whnf; simp only [q.s_self,q.s_items,q.s_place])); (case f => exact fun p _ => p)
noncomputable abbrev b_ListOfd_initd : List Stmt := by refine' (?f : (p : List Stmt) → fB (sn 22 0) = p → List Stmt) _ ?h; (case h => conv => (lhs; whnf; simp only [q.s_Node,q.h_2,q.s_self,q.s_place,q.s_items])); (case f => exact fun p _ => p)
noncomputable abbrev p_ListOf_row : Arguments := by refine' (?f : (p : Arguments) → fA (sn 22 1) = p → Arguments) _ ?h; (case h => conv => (lhs; whnf; simp only [q.s_self])); (case f => exact fun p _ => p)
noncomputable abbrev b_ListOf_row : List Stmt := by refine' (?f : (p : List Stmt) → fB (sn 22 1) = p → List Stmt) _ ?h; (case h => conv => (lhs; whnf; simp only [q.s_list,q.s_rows_of,q.s_self,q.s_items])); (case f => exact fun p _ => p)
noncomputable abbrev c_22 : Stmt := .ClassDef s_ListOf [.Name s_Node ⟨160,13,160,17⟩] [] [.FunctionDef h_2 p_ListOfd_initd b_ListOfd_initd [] none [] e_Infixd_initd none h_2 ⟨162,4,164,26⟩,.FunctionDef s_row p_ListOf_row b_ListOf_row [] none [] e_Infix_row none s_row ⟨166,4,167,44⟩] [] [] ⟨.class,[(h_2,.local),(s_row,.local)],false,false,[]⟩ none s_ListOf [s_items] ⟨160,0,167,44⟩
noncomputable abbrev p_Parend_initd : Arguments := by refine' (?f : (p : Arguments) → fA (sn 23 0) = p → Arguments) _ ?h; (case h => conv => (lhs; whnf; simp only [q.s_self,q.s_expr,q.s_place])); (case f => exact fun p _ => p)
noncomputable abbrev b_Parend_initd : List Stmt := by refine' (?f : (p : List Stmt) → fB (sn 23 0) = p → List Stmt) _ ?h; (case h => conv => (lhs; whnf; simp only [q.s_Node,q.h_2,q.s_self,q.s_place,q.s_expr])); (case f => exact fun p _ => p)
noncomputable abbrev e_Parend_initd : Scope := by refine' (?f : (p : Scope) → fS (sn 23 0) = p → Scope) _ ?h; (case h => conv => (lhs; whnf; simp only [q.s_self,q.s_expr,q.s_place,q.s_Node])); (case f => exact fun p _ => p)
noncomputable abbrev p_Paren_row : Arguments := by refine' (?f : (p : Arguments) → fA (sn 23 1) = p → Arguments) _ ?h; (case h => conv => (lhs; whnf; simp only [q.s_self])); (case f => exact fun p _ => p)
noncomputable abbrev b_Paren_row : List Stmt := by refine' (?f : (p : List Stmt) → fB (sn 23 1) = p → List Stmt) _ ?h; (case h => conv => (lhs; whnf; simp only [q.s_paren,q.s_self,q.s_expr,q.s_row])); (case f => exact fun p _ => p)
noncomputable abbrev c_23 : Stmt := .ClassDef s_Paren [.Name s_Node ⟨168,12,168,16⟩] [] [.FunctionDef h_2 p_Parend_initd b_Parend_initd [] none [] e_Parend_initd none h_2 ⟨170,4,172,24⟩,.FunctionDef s_row p_Paren_row b_Paren_row [] none [] e_Cursor_peek none s_row ⟨174,4,175,41⟩] [] [] ⟨.class,[(h_2,.local),(s_row,.local)],false,false,[]⟩ none s_Paren [s_expr] ⟨168,0,175,41⟩
noncomputable abbrev c_24 : Stmt := by refine' (?f : (p : Stmt) → sm 24 = p → Stmt) _ ?h; (case h => conv => (lhs; whnf; simp only [q.h_1,q.t11])); (case f => exact fun p _ => p)
noncomputable abbrev p_PVard_initd : Arguments := by refine' (?f : (p : Arguments) → fA (sn 25 0) = p → Arguments) _ ?h; (case h => conv => (lhs; whnf; simp only [q.s_self,q.s_name,q.s_place])); (case f => exact fun p _ => p)
noncomputable abbrev b_PVard_initd : List Stmt := by refine' (?f : (p : List Stmt) → fB (sn 25 0) = p → List Stmt) _ ?h; (case h => conv => (lhs; whnf; simp only [q.s_Node,q.h_2,q.s_self,q.s_place,q.s_name])); (case f => exact fun p _ => p)
noncomputable abbrev p_PVar_row : Arguments := by refine' (?f : (p : Arguments) → fA (sn 25 1) = p → Arguments) _ ?h; (case h => conv => (lhs; whnf; simp only [q.s_self])); (case f => exact fun p _ => p)
noncomputable abbrev b_PVar_row : List Stmt := by refine' (?f : (p : List Stmt) → fB (sn 25 1) = p → List Stmt) _ ?h; (case h => conv => (lhs; whnf; simp only [q.s_pvar,q.s_self,q.s_name])); (case f => exact fun p _ => p)
noncomputable abbrev c_25 : Stmt := .ClassDef s_PVar [.Name s_Node ⟨177,11,177,15⟩] [] [.FunctionDef h_2 p_PVard_initd b_PVard_initd [] none [] e_Vard_initd none h_2 ⟨179,4,181,24⟩,.FunctionDef s_row p_PVar_row b_PVar_row [] none [] e_Cursor_peek none s_row ⟨183,4,184,34⟩] [] [] ⟨.class,[(h_2,.local),(s_row,.local)],false,false,[]⟩ none s_PVar [s_name] ⟨177,0,184,34⟩
noncomputable abbrev p_PWildd_initd : Arguments := by refine' (?f : (p : Arguments) → fA (sn 26 0) = p → Arguments) _ ?h; (case h => conv => (lhs; whnf; simp only [q.s_self,q.s_place])); (case f => exact fun p _ => p)
noncomputable abbrev b_PWildd_initd : List Stmt := by refine' (?f : (p : List Stmt) → fB (sn 26 0) = p → List Stmt) _ ?h; (case h => conv => (lhs; whnf; simp only [q.s_Node,q.h_2,q.s_self,q.s_place])); (case f => exact fun p _ => p)
noncomputable abbrev e_PWildd_initd : Scope := by refine' (?f : (p : Scope) → fS (sn 26 0) = p → Scope) _ ?h; (case h => conv => (lhs; whnf; simp only [q.s_self,q.s_place,q.s_Node])); (case f => exact fun p _ => p)
noncomputable abbrev p_PWild_row : Arguments := by refine' (?f : (p : Arguments) → fA (sn 26 1) = p → Arguments) _ ?h; (case h => conv => (lhs; whnf; simp only [q.s_self])); (case f => exact fun p _ => p)
noncomputable abbrev b_PWild_row : List Stmt := by refine' (?f : (p : List Stmt) → fB (sn 26 1) = p → List Stmt) _ ?h; (case h => conv => (lhs; whnf; simp only [q.s_pwild])); (case f => exact fun p _ => p)
noncomputable abbrev c_26 : Stmt := .ClassDef s_PWild [.Name s_Node ⟨185,12,185,16⟩] [] [.FunctionDef h_2 p_PWildd_initd b_PWildd_initd [] none [] e_PWildd_initd none h_2 ⟨187,4,188,34⟩,.FunctionDef s_row p_PWild_row b_PWild_row [] none [] e_Cursor_peek none s_row ⟨190,4,191,25⟩] [] [] ⟨.class,[(h_2,.local),(s_row,.local)],false,false,[]⟩ none s_PWild [] ⟨185,0,191,25⟩
noncomputable abbrev p_PLitd_initd : Arguments := by refine' (?f : (p : Arguments) → fA (sn 27 0) = p → Arguments) _ ?h; (case h => conv => (lhs; whnf; simp only [q.s_self,q.s_kind,q.s_value,q.s_place])); (case f => exact fun p _ => p)
noncomputable abbrev b_PLitd_initd : List Stmt := by refine' (?f : (p : List Stmt) → fB (sn 27 0) = p → List Stmt) _ ?h; (case h => conv => (lhs; whnf; simp only [q.s_Node,q.h_2,q.s_self,q.s_place,q.s_kind,q.s_value])); (case f => exact fun p _ => p)
noncomputable abbrev p_PLit_row : Arguments := by refine' (?f : (p : Arguments) → fA (sn 27 1) = p → Arguments) _ ?h; (case h => conv => (lhs; whnf; simp only [q.s_self])); (case f => exact fun p _ => p)
noncomputable abbrev b_PLit_row : List Stmt := by refine' (?f : (p : List Stmt) → fB (sn 27 1) = p → List Stmt) _ ?h; (case h => conv => (lhs; whnf; simp only [q.s_plit,q.s_self,q.s_kind,q.s_value])); (case f => exact fun p _ => p)
noncomputable abbrev c_27 : Stmt := .ClassDef s_PLit [.Name s_Node ⟨192,11,192,15⟩] [] [.FunctionDef h_2 p_PLitd_initd b_PLitd_initd [] none [] e_Litd_initd none h_2 ⟨194,4,197,26⟩,.FunctionDef s_row p_PLit_row b_PLit_row [] none [] e_Cursor_peek none s_row ⟨199,4,200,46⟩] [] [] ⟨.class,[(h_2,.local),(s_row,.local)],false,false,[]⟩ none s_PLit [s_kind,s_value] ⟨192,0,200,46⟩
noncomputable abbrev p_PCond_initd : Arguments := by refine' (?f : (p : Arguments) → fA (sn 28 0) = p → Arguments) _ ?h; (case h => conv => (lhs; whnf; simp only [q.s_self,q.s_name,q.s_args,q.s_place])); (case f => exact fun p _ => p)
noncomputable abbrev b_PCond_initd : List Stmt := by refine' (?f : (p : List Stmt) → fB (sn 28 0) = p → List Stmt) _ ?h; (case h => conv => (lhs; whnf; simp only [q.s_Node,q.h_2,q.s_self,q.s_place,q.s_name,q.s_args])); (case f => exact fun p _ => p)
noncomputable abbrev e_PCond_initd : Scope := by refine' (?f : (p : Scope) → fS (sn 28 0) = p → Scope) _ ?h; (case h => conv => (lhs; whnf; simp only [q.s_self,q.s_name,q.s_args,q.s_place,q.s_Node])); (case f => exact fun p _ => p)
noncomputable abbrev p_PCon_row : Arguments := by refine' (?f : (p : Arguments) → fA (sn 28 1) = p → Arguments) _ ?h; (case h => conv => (lhs; whnf; simp only [q.s_self])); (case f => exact fun p _ => p)
noncomputable abbrev b_PCon_row : List Stmt := by refine' (?f : (p : List Stmt) → fB (sn 28 1) = p → List Stmt) _ ?h; (case h => conv => (lhs; whnf; simp only [q.s_pcon,q.s_self,q.s_name,q.s_rows_of,q.s_args])); (case f => exact fun p _ => p)
noncomputable abbrev c_28 : Stmt := .ClassDef s_PCon [.Name s_Node ⟨201,11,201,15⟩] [] [.FunctionDef h_2 p_PCond_initd b_PCond_initd [] none [] e_PCond_initd none h_2 ⟨203,4,206,24⟩,.FunctionDef s_row p_PCon_row b_PCon_row [] none [] e_Infix_row none s_row ⟨208,4,209,54⟩] [] [] ⟨.class,[(h_2,.local),(s_row,.local)],false,false,[]⟩ none s_PCon [s_args,s_name] ⟨201,0,209,54⟩
noncomputable abbrev p_PTupled_initd : Arguments := by refine' (?f : (p : Arguments) → fA (sn 29 0) = p → Arguments) _ ?h; (case h => conv => (lhs; whnf; simp only [q.s_self,q.s_items,q.s_place])); (case f => exact fun p _ => p)
noncomputable abbrev b_PTupled_initd : List Stmt := by refine' (?f : (p : List Stmt) → fB (sn 29 0) = p → List Stmt) _ ?h; (case h => conv => (lhs; whnf; simp only [q.s_Node,q.h_2,q.s_self,q.s_place,q.s_items])); (case f => exact fun p _ => p)
noncomputable abbrev p_PTuple_row : Arguments := by refine' (?f : (p : Arguments) → fA (sn 29 1) = p → Arguments) _ ?h; (case h => conv => (lhs; whnf; simp only [q.s_self])); (case f => exact fun p _ => p)
noncomputable abbrev b_PTuple_row : List Stmt := by refine' (?f : (p : List Stmt) → fB (sn 29 1) = p → List Stmt) _ ?h; (case h => conv => (lhs; whnf; simp only [q.s_ptuple,q.s_rows_of,q.s_self,q.s_items])); (case f => exact fun p _ => p)
noncomputable abbrev c_29 : Stmt := .ClassDef s_PTuple [.Name s_Node ⟨210,13,210,17⟩] [] [.FunctionDef h_2 p_PTupled_initd b_PTupled_initd [] none [] e_Infixd_initd none h_2 ⟨212,4,214,26⟩,.FunctionDef s_row p_PTuple_row b_PTuple_row [] none [] e_Infix_row none s_row ⟨216,4,217,46⟩] [] [] ⟨.class,[(h_2,.local),(s_row,.local)],false,false,[]⟩ none s_PTuple [s_items] ⟨210,0,217,46⟩
noncomputable abbrev p_PListd_initd : Arguments := by refine' (?f : (p : Arguments) → fA (sn 30 0) = p → Arguments) _ ?h; (case h => conv => (lhs; whnf; simp only [q.s_self,q.s_items,q.s_place])); (case f => exact fun p _ => p)
noncomputable abbrev b_PListd_initd : List Stmt := by refine' (?f : (p : List Stmt) → fB (sn 30 0) = p → List Stmt) _ ?h; (case h => conv => (lhs; whnf; simp only [q.s_Node,q.h_2,q.s_self,q.s_place,q.s_items])); (case f => exact fun p _ => p)
noncomputable abbrev p_PList_row : Arguments := by refine' (?f : (p : Arguments) → fA (sn 30 1) = p → Arguments) _ ?h; (case h => conv => (lhs; whnf; simp only [q.s_self])); (case f => exact fun p _ => p)
noncomputable abbrev b_PList_row : List Stmt := by refine' (?f : (p : List Stmt) → fB (sn 30 1) = p → List Stmt) _ ?h; (case h => conv => (lhs; whnf; simp only [q.s_plist,q.s_rows_of,q.s_self,q.s_items])); (case f => exact fun p _ => p)
noncomputable abbrev c_30 : Stmt := .ClassDef s_PList [.Name s_Node ⟨218,12,218,16⟩] [] [.FunctionDef h_2 p_PListd_initd b_PListd_initd [] none [] e_Infixd_initd none h_2 ⟨220,4,222,26⟩,.FunctionDef s_row p_PList_row b_PList_row [] none [] e_Infix_row none s_row ⟨224,4,225,45⟩] [] [] ⟨.class,[(h_2,.local),(s_row,.local)],false,false,[]⟩ none s_PList [s_items] ⟨218,0,225,45⟩
noncomputable abbrev p_PAsd_initd : Arguments := by refine' (?f : (p : Arguments) → fA (sn 31 0) = p → Arguments) _ ?h; (case h => conv => (lhs; whnf; simp only [q.s_self,q.s_name,q.s_pattern,q.s_place])); (case f => exact fun p _ => p)
noncomputable abbrev b_PAsd_initd : List Stmt := by refine' (?f : (p : List Stmt) → fB (sn 31 0) = p → List Stmt) _ ?h; (case h => conv => (lhs; whnf; simp only [q.s_Node,q.h_2,q.s_self,q.s_place,q.s_name,q.s_pattern])); (case f => exact fun p _ => p)
noncomputable abbrev e_PAsd_initd : Scope := by refine' (?f : (p : Scope) → fS (sn 31 0) = p → Scope) _ ?h; (case h => conv => (lhs; whnf; simp only [q.s_self,q.s_name,q.s_pattern,q.s_place,q.s_Node])); (case f => exact fun p _ => p)
noncomputable abbrev p_PAs_row : Arguments := by refine' (?f : (p : Arguments) → fA (sn 31 1) = p → Arguments) _ ?h; (case h => conv => (lhs; whnf; simp only [q.s_self])); (case f => exact fun p _ => p)
noncomputable abbrev b_PAs_row : List Stmt := by refine' (?f : (p : List Stmt) → fB (sn 31 1) = p → List Stmt) _ ?h; (case h => conv => (lhs; whnf; simp only [q.s_pas,q.s_self,q.s_name,q.s_pattern,q.s_row])); (case f => exact fun p _ => p)
noncomputable abbrev c_31 : Stmt := .ClassDef s_PAs [.Name s_Node ⟨226,10,226,14⟩] [] [.FunctionDef h_2 p_PAsd_initd b_PAsd_initd [] none [] e_PAsd_initd none h_2 ⟨228,4,231,30⟩,.FunctionDef s_row p_PAs_row b_PAs_row [] none [] e_Cursor_peek none s_row ⟨233,4,234,53⟩] [] [] ⟨.class,[(h_2,.local),(s_row,.local)],false,false,[]⟩ none s_PAs [s_name,s_pattern] ⟨226,0,234,53⟩
noncomputable abbrev p_PLazyd_initd : Arguments := by refine' (?f : (p : Arguments) → fA (sn 32 0) = p → Arguments) _ ?h; (case h => conv => (lhs; whnf; simp only [q.s_self,q.s_pattern,q.s_place])); (case f => exact fun p _ => p)
noncomputable abbrev b_PLazyd_initd : List Stmt := by refine' (?f : (p : List Stmt) → fB (sn 32 0) = p → List Stmt) _ ?h; (case h => conv => (lhs; whnf; simp only [q.s_Node,q.h_2,q.s_self,q.s_place,q.s_pattern])); (case f => exact fun p _ => p)
noncomputable abbrev e_PLazyd_initd : Scope := by refine' (?f : (p : Scope) → fS (sn 32 0) = p → Scope) _ ?h; (case h => conv => (lhs; whnf; simp only [q.s_self,q.s_pattern,q.s_place,q.s_Node])); (case f => exact fun p _ => p)
noncomputable abbrev p_PLazy_row : Arguments := by refine' (?f : (p : Arguments) → fA (sn 32 1) = p → Arguments) _ ?h; (case h => conv => (lhs; whnf; simp only [q.s_self])); (case f => exact fun p _ => p)
noncomputable abbrev b_PLazy_row : List Stmt := by refine' (?f : (p : List Stmt) → fB (sn 32 1) = p → List Stmt) _ ?h; (case h => conv => (lhs; whnf; simp only [q.s_plazy,q.s_self,q.s_pattern,q.s_row])); (case f => exact fun p _ => p)
noncomputable abbrev c_32 : Stmt := .ClassDef s_PLazy [.Name s_Node ⟨235,12,235,16⟩] [] [.FunctionDef h_2 p_PLazyd_initd b_PLazyd_initd [] none [] e_PLazyd_initd none h_2 ⟨237,4,239,30⟩,.FunctionDef s_row p_PLazy_row b_PLazy_row [] none [] e_Cursor_peek none s_row ⟨241,4,242,44⟩] [] [] ⟨.class,[(h_2,.local),(s_row,.local)],false,false,[]⟩ none s_PLazy [s_pattern] ⟨235,0,242,44⟩
noncomputable abbrev p_PBangd_initd : Arguments := by refine' (?f : (p : Arguments) → fA (sn 33 0) = p → Arguments) _ ?h; (case h => conv => (lhs; whnf; simp only [q.s_self,q.s_pattern,q.s_place])); (case f => exact fun p _ => p)
noncomputable abbrev b_PBangd_initd : List Stmt := by refine' (?f : (p : List Stmt) → fB (sn 33 0) = p → List Stmt) _ ?h; (case h => conv => (lhs; whnf; simp only [q.s_Node,q.h_2,q.s_self,q.s_place,q.s_pattern])); (case f => exact fun p _ => p)
noncomputable abbrev p_PBang_row : Arguments := by refine' (?f : (p : Arguments) → fA (sn 33 1) = p → Arguments) _ ?h; (case h => conv => (lhs; whnf; simp only [q.s_self])); (case f => exact fun p _ => p)
noncomputable abbrev b_PBang_row : List Stmt := by refine' (?f : (p : List Stmt) → fB (sn 33 1) = p → List Stmt) _ ?h; (case h => conv => (lhs; whnf; simp only [q.s_pbang,q.s_self,q.s_pattern,q.s_row])); (case f => exact fun p _ => p)
noncomputable abbrev c_33 : Stmt := .ClassDef s_PBang [.Name s_Node ⟨243,12,243,16⟩] [] [.FunctionDef h_2 p_PBangd_initd b_PBangd_initd [] none [] e_PLazyd_initd none h_2 ⟨245,4,247,30⟩,.FunctionDef s_row p_PBang_row b_PBang_row [] none [] e_Cursor_peek none s_row ⟨249,4,250,44⟩] [] [] ⟨.class,[(h_2,.local),(s_row,.local)],false,false,[]⟩ none s_PBang [s_pattern] ⟨243,0,250,44⟩
noncomputable abbrev p_PInfixd_initd : Arguments := by refine' (?f : (p : Arguments) → fA (sn 34 0) = p → Arguments) _ ?h; (case h => conv => (lhs; whnf; simp only [q.s_self,q.s_items,q.s_place])); (case f => exact fun p _ => p)
noncomputable abbrev b_PInfixd_initd : List Stmt := by refine' (?f : (p : List Stmt) → fB (sn 34 0) = p → List Stmt) _ ?h; (case h => conv => (lhs; whnf; simp only [q.s_Node,q.h_2,q.s_self,q.s_place,q.s_items])); (case f => exact fun p _ => p)
noncomputable abbrev p_PInfix_row : Arguments := by refine' (?f : (p : Arguments) → fA (sn 34 1) = p → Arguments) _ ?h; (case h => conv => (lhs; whnf; simp only [q.s_self])); (case f => exact fun p _ => p)
noncomputable abbrev b_PInfix_row : List Stmt := by refine' (?f : (p : List Stmt) → fB (sn 34 1) = p → List Stmt) _ ?h; (case h => conv => (lhs; whnf; simp only [q.s_pinfix,q.s_rows_of,q.s_self,q.s_items])); (case f => exact fun p _ => p)
noncomputable abbrev c_34 : Stmt := .ClassDef s_PInfix [.Name s_Node ⟨251,13,251,17⟩] [] [.FunctionDef h_2 p_PInfixd_initd b_PInfixd_initd [] none [] e_Infixd_initd none h_2 ⟨253,4,255,26⟩,.FunctionDef s_row p_PInfix_row b_PInfix_row [] none [] e_Infix_row none s_row ⟨257,4,258,46⟩] [] [] ⟨.class,[(h_2,.local),(s_row,.local)],false,false,[]⟩ none s_PInfix [s_items] ⟨251,0,258,46⟩
noncomputable abbrev p_PParend_initd : Arguments := by refine' (?f : (p : Arguments) → fA (sn 35 0) = p → Arguments) _ ?h; (case h => conv => (lhs; whnf; simp only [q.s_self,q.s_pattern,q.s_place])); (case f => exact fun p _ => p)
noncomputable abbrev b_PParend_initd : List Stmt := by refine' (?f : (p : List Stmt) → fB (sn 35 0) = p → List Stmt) _ ?h; (case h => conv => (lhs; whnf; simp only [q.s_Node,q.h_2,q.s_self,q.s_place,q.s_pattern])); (case f => exact fun p _ => p)
noncomputable abbrev p_PParen_row : Arguments := by refine' (?f : (p : Arguments) → fA (sn 35 1) = p → Arguments) _ ?h; (case h => conv => (lhs; whnf; simp only [q.s_self])); (case f => exact fun p _ => p)
noncomputable abbrev b_PParen_row : List Stmt := by refine' (?f : (p : List Stmt) → fB (sn 35 1) = p → List Stmt) _ ?h; (case h => conv => (lhs; whnf; simp only [q.s_pparen,q.s_self,q.s_pattern,q.s_row])); (case f => exact fun p _ => p)
noncomputable abbrev c_35 : Stmt := .ClassDef s_PParen [.Name s_Node ⟨259,13,259,17⟩] [] [.FunctionDef h_2 p_PParend_initd b_PParend_initd [] none [] e_PLazyd_initd none h_2 ⟨261,4,263,30⟩,.FunctionDef s_row p_PParen_row b_PParen_row [] none [] e_Cursor_peek none s_row ⟨265,4,266,45⟩] [] [] ⟨.class,[(h_2,.local),(s_row,.local)],false,false,[]⟩ none s_PParen [s_pattern] ⟨259,0,266,45⟩
noncomputable abbrev c_36 : Stmt := by refine' (?f : (p : Stmt) → sm 36 = p → Stmt) _ ?h; (case h => conv => (lhs; whnf; simp only [q.h_1,q.t12])); (case f => exact fun p _ => p)
noncomputable abbrev c_37 : Stmt := by refine' (?f : (p : Stmt) → sm 37 = p → Stmt) _ ?h; (case h => conv => (lhs; whnf; simp only [q.s_LITERALS,q.s_int,q.s_char,q.s_text])); (case f => exact fun p _ => p)
noncomputable abbrev p_read_pattern_at : Arguments := by refine' (?f : (p : Arguments) → fA (sm 38) = p → Arguments) _ ?h; (case h => conv => (lhs; whnf; simp only [q.s_cursor])); (case f => exact fun p _ => p)
noncomputable abbrev b_read_pattern_at : List Stmt := by refine' (?f : (p : List Stmt) → fB (sm 38) = p → List Stmt) _ ?h; (case h => conv => (lhs; whnf; simp only [q.s_place,q.s_cursor,q.s_items,q.s_read_part,q.s_is_con_operator,q.s_append,q.s_read_con_operator,q.s_len,q.s_PInfix])); (case f => exact fun p _ => p)
noncomputable abbrev e_read_pattern_at : Scope := by refine' (?f : (p : Scope) → fS (sm 38) = p → Scope) _ ?h; (case h => conv => (lhs; whnf; simp only [q.s_cursor,q.s_place,q.s_items,q.s_read_part,q.s_is_con_operator,q.s_read_con_operator,q.s_len,q.s_PInfix])); (case f => exact fun p _ => p)
noncomputable abbrev c_38 : Stmt := .FunctionDef s_read_pattern_at p_read_pattern_at b_read_pattern_at [] none [] e_read_pattern_at none s_read_pattern_at ⟨269,0,275,64⟩
noncomputable abbrev p_is_con_operator : Arguments := by refine' (?f : (p : Arguments) → fA (sm 39) = p → Arguments) _ ?h; (case h => conv => (lhs; whnf; simp only [q.s_cursor])); (case f => exact fun p _ => p)
noncomputable abbrev b_is_con_operator : List Stmt := by refine' (?f : (p : List Stmt) → fB (sm 39) = p → List Stmt) _ ?h; (case h => conv => (lhs; whnf; simp only [q.s_cursor,q.s_is_at,q.s_consym,q.s_op,q.h_10,q.s_special,q.h_11])); (case f => exact fun p _ => p)
noncomputable abbrev e_is_con_operator : Scope := by refine' (?f : (p : Scope) → fS (sm 39) = p → Scope) _ ?h; (case h => conv => (lhs; whnf; simp only [q.s_cursor])); (case f => exact fun p _ => p)
noncomputable abbrev c_39 : Stmt := .FunctionDef s_is_con_operator p_is_con_operator b_is_con_operator [] none [] e_is_con_operator none s_is_con_operator ⟨276,0,277,92⟩
noncomputable abbrev p_read_con_operator : Arguments := by refine' (?f : (p : Arguments) → fA (sm 40) = p → Arguments) _ ?h; (case h => conv => (lhs; whnf; simp only [q.s_cursor])); (case f => exact fun p _ => p)
noncomputable abbrev b_read_con_operator : List Stmt := by refine' (?f : (p : List Stmt) → fB (sm 40) = p → List Stmt) _ ?h; (case h => conv => (lhs; whnf; simp only [q.s_word,q.s_cursor,q.s_next,q.s_kind,q.s_special,q.s_Op,q.s_op,q.s_text,q.s_full_name,q.s_place,q.s_name,q.s_want,q.s_con,q.h_11])); (case f => exact fun p _ => p)
noncomputable abbrev e_read_con_operator : Scope := by refine' (?f : (p : Scope) → fS (sm 40) = p → Scope) _ ?h; (case h => conv => (lhs; whnf; simp only [q.s_cursor,q.s_word,q.s_name,q.s_Op,q.s_full_name])); (case f => exact fun p _ => p)
noncomputable abbrev c_40 : Stmt := .FunctionDef s_read_con_operator p_read_con_operator b_read_con_operator [] none [] e_read_con_operator none s_read_con_operator ⟨278,0,284,50⟩
noncomputable abbrev p_read_part : Arguments := by refine' (?f : (p : Arguments) → fA (sm 41) = p → Arguments) _ ?h; (case h => conv => (lhs; whnf; simp only [q.s_cursor])); (case f => exact fun p _ => p)
noncomputable abbrev b_read_part : List Stmt := by refine' (?f : (p : List Stmt) → fB (sm 41) = p → List Stmt) _ ?h; (case h => conv => (lhs; whnf; simp only [q.s_word,q.s_cursor,q.s_peek,q.s_is_word,q.s_varsym,q.h_12,q.s_value,q.s_next,q.s_PLit,q.s_int,q.s_want,q.s_place,q.s_name,q.s_read_con_name,q.s_read_atom_pattern,q.s_args,q.s_is_pattern_atom,q.s_append,q.s_PCon])); (case f => exact fun p _ => p)
noncomputable abbrev e_read_part : Scope := by refine' (?f : (p : Scope) → fS (sm 41) = p → Scope) _ ?h; (case h => conv => (lhs; whnf; simp only [q.s_cursor,q.s_word,q.s_name,q.s_args,q.s_PLit,q.s_read_con_name,q.s_read_atom_pattern,q.s_is_pattern_atom,q.s_PCon])); (case f => exact fun p _ => p)
noncomputable abbrev c_41 : Stmt := .FunctionDef s_read_part p_read_part b_read_part [] none [] e_read_part none s_read_part ⟨285,0,296,41⟩
noncomputable abbrev p_read_con_name : Arguments := by refine' (?f : (p : Arguments) → fA (sm 42) = p → Arguments) _ ?h; (case h => conv => (lhs; whnf; simp only [q.s_cursor])); (case f => exact fun p _ => p)
noncomputable abbrev b_read_con_name : List Stmt := by refine' (?f : (p : List Stmt) → fB (sm 42) = p → List Stmt) _ ?h; (case h => conv => (lhs; whnf; simp only [q.s_cursor,q.s_is_at,q.s_con,q.s_full_name,q.s_next,q.s_special,q.h_13,q.s_is_con_symbol,q.s_behind,q.s_name,q.s_read_con_operator,q.s_want,q.h_3])); (case f => exact fun p _ => p)
noncomputable abbrev e_read_con_name : Scope := by refine' (?f : (p : Scope) → fS (sm 42) = p → Scope) _ ?h; (case h => conv => (lhs; whnf; simp only [q.s_cursor,q.s_name,q.s_full_name,q.s_is_con_symbol,q.s_read_con_operator])); (case f => exact fun p _ => p)
noncomputable abbrev c_42 : Stmt := .FunctionDef s_read_con_name p_read_con_name b_read_con_name [] none [] e_read_con_name none s_read_con_name ⟨297,0,305,15⟩
noncomputable abbrev p_is_con_symbol : Arguments := by refine' (?f : (p : Arguments) → fA (sm 43) = p → Arguments) _ ?h; (case h => conv => (lhs; whnf; simp only [q.s_word])); (case f => exact fun p _ => p)
noncomputable abbrev b_is_con_symbol : List Stmt := by refine' (?f : (p : List Stmt) → fB (sm 43) = p → List Stmt) _ ?h; (case h => conv => (lhs; whnf; simp only [q.s_word,q.s_kind,q.s_consym,q.s_is_word,q.s_op,q.h_10])); (case f => exact fun p _ => p)
noncomputable abbrev c_43 : Stmt := .FunctionDef s_is_con_symbol p_is_con_symbol b_is_con_symbol [] none [] e_full_name none s_is_con_symbol ⟨306,0,307,59⟩
noncomputable abbrev p_is_pattern_atom : Arguments := by refine' (?f : (p : Arguments) → fA (sm 44) = p → Arguments) _ ?h; (case h => conv => (lhs; whnf; simp only [q.s_cursor])); (case f => exact fun p _ => p)
noncomputable abbrev b_is_pattern_atom : List Stmt := by refine' (?f : (p : List Stmt) → fB (sm 44) = p → List Stmt) _ ?h; (case h => conv => (lhs; whnf; simp only [q.s_word,q.s_cursor,q.s_peek,q.s_kind,q.s_var,q.s_value,q.s_con,q.s_LITERALS,q.s_special,q.s_text,q.h_13,q.h_14,q.s_is_word,q.s_key,q.h_15,q.s_op,q.h_16,q.s_varsym,q.h_17])); (case f => exact fun p _ => p)
noncomputable abbrev e_is_pattern_atom : Scope := by refine' (?f : (p : Scope) → fS (sm 44) = p → Scope) _ ?h; (case h => conv => (lhs; whnf; simp only [q.s_cursor,q.s_word,q.s_LITERALS])); (case f => exact fun p _ => p)
noncomputable abbrev c_44 : Stmt := .FunctionDef s_is_pattern_atom p_is_pattern_atom b_is_pattern_atom [] none [] e_is_pattern_atom none s_is_pattern_atom ⟨308,0,316,93⟩
noncomputable abbrev p_read_atom_pattern : Arguments := by refine' (?f : (p : Arguments) → fA (sm 45) = p → Arguments) _ ?h; (case h => conv => (lhs; whnf; simp only [q.s_cursor])); (case f => exact fun p _ => p)
noncomputable abbrev b_read_atom_pattern : List Stmt := by refine' (?f : (p : List Stmt) → fB (sm 45) = p → List Stmt) _ ?h; (case h => conv => (lhs; whnf; simp only [q.s_is_pattern_atom,q.s_cursor,q.s_refuse,q.t13,q.s_word,q.s_next,q.s_place,q.s_kind,q.s_var,q.s_take,q.s_op,q.h_18,q.s_PAs,q.s_text,q.s_read_atom_pattern,q.s_PVar,q.s_con,q.s_PCon,q.s_full_name,q.s_LITERALS,q.s_PLit,q.s_value,q.s_key,q.s_PWild,q.s_PLazy,q.s_varsym,q.s_PBang,q.h_14,q.s_read_list_pattern,q.s_read_bracketed_pattern])); (case f => exact fun p _ => p)
noncomputable abbrev e_read_atom_pattern : Scope := by refine' (?f : (p : Scope) → fS (sm 45) = p → Scope) _ ?h; (case h => conv => (lhs; whnf; simp only [q.s_cursor,q.s_word,q.s_place,q.s_is_pattern_atom,q.s_PAs,q.s_read_atom_pattern,q.s_PVar,q.s_PCon,q.s_full_name,q.s_LITERALS,q.s_PLit,q.s_PWild,q.s_PLazy,q.s_PBang,q.s_read_list_pattern,q.s_read_bracketed_pattern])); (case f => exact fun p _ => p)
noncomputable abbrev c_45 : Stmt := .FunctionDef s_read_atom_pattern p_read_atom_pattern b_read_atom_pattern [] none [] e_read_atom_pattern none s_read_atom_pattern ⟨317,0,334,106⟩
noncomputable abbrev p_read_several : Arguments := by refine' (?f : (p : Arguments) → fA (sm 46) = p → Arguments) _ ?h; (case h => conv => (lhs; whnf; simp only [q.s_cursor])); (case f => exact fun p _ => p)
noncomputable abbrev b_read_several : List Stmt := by refine' (?f : (p : List Stmt) → fB (sm 46) = p → List Stmt) _ ?h; (case h => conv => (lhs; whnf; simp only [q.s_found,q.s_read_pattern_at,q.s_cursor,q.s_take,q.s_special,q.h_5,q.s_append])); (case f => exact fun p _ => p)
noncomputable abbrev e_read_several : Scope := by refine' (?f : (p : Scope) → fS (sm 46) = p → Scope) _ ?h; (case h => conv => (lhs; whnf; simp only [q.s_cursor,q.s_found,q.s_read_pattern_at])); (case f => exact fun p _ => p)
noncomputable abbrev c_46 : Stmt := .FunctionDef s_read_several p_read_several b_read_several [] none [] e_read_several none s_read_several ⟨335,0,339,16⟩
noncomputable abbrev p_read_list_pattern : Arguments := by refine' (?f : (p : Arguments) → fA (sm 47) = p → Arguments) _ ?h; (case h => conv => (lhs; whnf; simp only [q.s_cursor,q.s_place])); (case f => exact fun p _ => p)
noncomputable abbrev b_read_list_pattern : List Stmt := by refine' (?f : (p : List Stmt) → fB (sm 47) = p → List Stmt) _ ?h; (case h => conv => (lhs; whnf; simp only [q.s_cursor,q.s_take,q.s_special,q.h_4,q.s_PCon,q.h_19,q.s_place,q.s_items,q.s_read_several,q.s_want,q.s_PList])); (case f => exact fun p _ => p)
noncomputable abbrev e_read_list_pattern : Scope := by refine' (?f : (p : Scope) → fS (sm 47) = p → Scope) _ ?h; (case h => conv => (lhs; whnf; simp only [q.s_cursor,q.s_place,q.s_items,q.s_PCon,q.s_read_several,q.s_PList])); (case f => exact fun p _ => p)
noncomputable abbrev c_47 : Stmt := .FunctionDef s_read_list_pattern p_read_list_pattern b_read_list_pattern [] none [] e_read_list_pattern none s_read_list_pattern ⟨340,0,345,30⟩
noncomputable abbrev p_read_bracketed_pattern : Arguments := by refine' (?f : (p : Arguments) → fA (sm 48) = p → Arguments) _ ?h; (case h => conv => (lhs; whnf; simp only [q.s_cursor,q.s_place])); (case f => exact fun p _ => p)
noncomputable abbrev b_read_bracketed_pattern : List Stmt := by refine' (?f : (p : List Stmt) → fB (sm 48) = p → List Stmt) _ ?h; (case h => conv => (lhs; whnf; simp only [q.s_cursor,q.s_take,q.s_special,q.h_3,q.s_PCon,q.h_20,q.s_place,q.s_items,q.s_read_several,q.s_want,q.s_len,q.s_PParen,q.s_PTuple])); (case f => exact fun p _ => p)
noncomputable abbrev e_read_bracketed_pattern : Scope := by refine' (?f : (p : Scope) → fS (sm 48) = p → Scope) _ ?h; (case h => conv => (lhs; whnf; simp only [q.s_cursor,q.s_place,q.s_items,q.s_PCon,q.s_read_several,q.s_len,q.s_PParen,q.s_PTuple])); (case f => exact fun p _ => p)
noncomputable abbrev c_48 : Stmt := .FunctionDef s_read_bracketed_pattern p_read_bracketed_pattern b_read_bracketed_pattern [] none [] e_read_bracketed_pattern none s_read_bracketed_pattern ⟨346,0,351,79⟩
noncomputable abbrev p_is_plain_name : Arguments := by refine' (?f : (p : Arguments) → fA (sm 49) = p → Arguments) _ ?h; (case h => conv => (lhs; whnf; simp only [q.s_name])); (case f => exact fun p _ => p)
noncomputable abbrev b_is_plain_name : List Stmt := by refine' (?f : (p : List Stmt) → fB (sm 49) = p → List Stmt) _ ?h; (case h => conv => (lhs; whnf; simp only [q.h_7,q.s_name,q.s_isalpha,q.h_15])); (case f => exact fun p _ => p)
noncomputable abbrev e_is_plain_name : Scope := by refine' (?f : (p : Scope) → fS (sm 49) = p → Scope) _ ?h; (case h => conv => (lhs; whnf; simp only [q.s_name])); (case f => exact fun p _ => p)
noncomputable abbrev c_49 : Stmt := .FunctionDef s_is_plain_name p_is_plain_name b_is_plain_name [] none [] e_is_plain_name none s_is_plain_name ⟨352,0,353,68⟩
noncomputable abbrev p_pattern_of : Arguments := by refine' (?f : (p : Arguments) → fA (sm 50) = p → Arguments) _ ?h; (case h => conv => (lhs; whnf; simp only [q.s_expr])); (case f => exact fun p _ => p)
noncomputable abbrev b_pattern_of : List Stmt := by refine' (?f : (p : List Stmt) → fB (sm 50) = p → List Stmt) _ ?h; (case h => conv => (lhs; whnf; simp only [q.s_isinstance,q.s_expr,q.s_PWild,q.s_PAs,q.s_PLazy,q.s_PBang,q.s_Var,q.s_is_plain_name,q.s_name,q.s_PVar,q.s_place,q.s_Lit,q.s_PLit,q.s_kind,q.s_value,q.s_Con,q.s_App,q.s_applied_pattern,q.s_Paren,q.s_PParen,q.s_pattern_of,q.s_Tuple,q.s_PTuple,q.s_item,q.s_items,q.t9,q.s_ListOf,q.s_PList,q.s_Infix,q.s_infix_pattern,q.s_ReadError,q.t14])); (case f => exact fun p _ => p)
noncomputable abbrev e_pattern_of : Scope := by refine' (?f : (p : Scope) → fS (sm 50) = p → Scope) _ ?h; (case h => conv => (lhs; whnf; simp only [q.s_expr,q.s_isinstance,q.s_PWild,q.s_PAs,q.s_PLazy,q.s_PBang,q.s_Var,q.s_is_plain_name,q.s_PVar,q.s_Lit,q.s_PLit,q.s_Con,q.s_App,q.s_applied_pattern,q.s_Paren,q.s_PParen,q.s_pattern_of,q.s_Tuple,q.s_PTuple,q.s_ListOf,q.s_PList,q.s_Infix,q.s_infix_pattern,q.s_ReadError,q.t10,q.s_item])); (case f => exact fun p _ => p)
noncomputable abbrev c_50 : Stmt := .FunctionDef s_pattern_of p_pattern_of b_pattern_of [] none [] e_pattern_of none s_pattern_of ⟨354,0,371,71⟩
noncomputable abbrev p_applied_pattern : Arguments := by refine' (?f : (p : Arguments) → fA (sm 51) = p → Arguments) _ ?h; (case h => conv => (lhs; whnf; simp only [q.s_expr])); (case f => exact fun p _ => p)
noncomputable abbrev b_applied_pattern : List Stmt := by refine' (?f : (p : List Stmt) → fB (sm 51) = p → List Stmt) _ ?h; (case h => conv => (lhs; whnf; simp only [q.s_args,q.s_head,q.s_expr,q.s_isinstance,q.s_App,q.s_append,q.s_arg,q.s_fun,q.s_Con,q.s_ReadError,q.t15,q.s_place,q.s_reverse,q.s_PCon,q.s_name,q.s_pattern_of,q.t9])); (case f => exact fun p _ => p)
noncomputable abbrev e_applied_pattern : Scope := by refine' (?f : (p : Scope) → fS (sm 51) = p → Scope) _ ?h; (case h => conv => (lhs; whnf; simp only [q.s_expr,q.s_args,q.s_head,q.s_isinstance,q.s_App,q.s_Con,q.s_ReadError,q.s_PCon,q.t10,q.s_arg])); (case f => exact fun p _ => p)
noncomputable abbrev c_51 : Stmt := .FunctionDef s_applied_pattern p_applied_pattern b_applied_pattern [] none [] e_applied_pattern none s_applied_pattern ⟨372,0,380,73⟩
noncomputable abbrev p_infix_pattern : Arguments := by refine' (?f : (p : Arguments) → fA (sm 52) = p → Arguments) _ ?h; (case h => conv => (lhs; whnf; simp only [q.s_items,q.s_place])); (case f => exact fun p _ => p)
noncomputable abbrev b_infix_pattern : List Stmt := by refine' (?f : (p : List Stmt) → fB (sm 52) = p → List Stmt) _ ?h; (case h => conv => (lhs; whnf; simp only [q.s_found,q.s_at,q.s_len,q.s_items,q.s_item,q.s_isinstance,q.s_Op,q.s_behind,q.s_Lit,q.s_kind,q.s_int,q.s_ReadError,q.t16,q.s_place,q.s_append,q.s_PLit,q.s_value,q.s_con_operator,q.s_pattern_of,q.s_PInfix])); (case f => exact fun p _ => p)
noncomputable abbrev e_infix_pattern : Scope := by refine' (?f : (p : Scope) → fS (sm 52) = p → Scope) _ ?h; (case h => conv => (lhs; whnf; simp only [q.s_items,q.s_place,q.s_found,q.s_at,q.s_item,q.s_behind,q.s_len,q.s_isinstance,q.s_Op,q.s_Lit,q.s_ReadError,q.s_PLit,q.s_con_operator,q.s_pattern_of,q.s_PInfix])); (case f => exact fun p _ => p)
noncomputable abbrev c_52 : Stmt := .FunctionDef s_infix_pattern p_infix_pattern b_infix_pattern [] none [] e_infix_pattern none s_infix_pattern ⟨381,0,394,64⟩
noncomputable abbrev p_con_operator : Arguments := by refine' (?f : (p : Arguments) → fA (sm 53) = p → Arguments) _ ?h; (case h => conv => (lhs; whnf; simp only [q.s_op])); (case f => exact fun p _ => p)
noncomputable abbrev b_con_operator : List Stmt := by refine' (?f : (p : List Stmt) → fB (sm 53) = p → List Stmt) _ ?h; (case h => conv => (lhs; whnf; simp only [q.s_op,q.s_is_con,q.s_ReadError,q.t17,q.s_place])); (case f => exact fun p _ => p)
noncomputable abbrev e_con_operator : Scope := by refine' (?f : (p : Scope) → fS (sm 53) = p → Scope) _ ?h; (case h => conv => (lhs; whnf; simp only [q.s_op,q.s_ReadError])); (case f => exact fun p _ => p)
noncomputable abbrev c_53 : Stmt := .FunctionDef s_con_operator p_con_operator b_con_operator [] none [] e_con_operator none s_con_operator ⟨395,0,398,13⟩
noncomputable abbrev c_54 : Stmt := by refine' (?f : (p : Stmt) → sm 54 = p → Stmt) _ ?h; (case h => conv => (lhs; whnf; simp only [q.h_1,q.t18])); (case f => exact fun p _ => p)
noncomputable abbrev p_WordRowd_initd : Arguments := by refine' (?f : (p : Arguments) → fA (sn 55 0) = p → Arguments) _ ?h; (case h => conv => (lhs; whnf; simp only [q.s_self,q.s_words,q.s_end])); (case f => exact fun p _ => p)
noncomputable abbrev b_WordRowd_initd : List Stmt := by refine' (?f : (p : List Stmt) → fB (sn 55 0) = p → List Stmt) _ ?h; (case h => conv => (lhs; whnf; simp only [q.s_self,q.s_words,q.s_end,q.s_at])); (case f => exact fun p _ => p)
noncomputable abbrev e_WordRowd_initd : Scope := by refine' (?f : (p : Scope) → fS (sn 55 0) = p → Scope) _ ?h; (case h => conv => (lhs; whnf; simp only [q.s_self,q.s_words,q.s_end])); (case f => exact fun p _ => p)
noncomputable abbrev p_WordRow_peek : Arguments := by refine' (?f : (p : Arguments) → fA (sn 55 1) = p → Arguments) _ ?h; (case h => conv => (lhs; whnf; simp only [q.s_self])); (case f => exact fun p _ => p)
noncomputable abbrev b_WordRow_peek : List Stmt := by refine' (?f : (p : List Stmt) → fB (sn 55 1) = p → List Stmt) _ ?h; (case h => conv => (lhs; whnf; simp only [q.s_self,q.s_at,q.s_len,q.s_words,q.s_end])); (case f => exact fun p _ => p)
noncomputable abbrev e_WordRow_peek : Scope := by refine' (?f : (p : Scope) → fS (sn 55 1) = p → Scope) _ ?h; (case h => conv => (lhs; whnf; simp only [q.s_self,q.s_len])); (case f => exact fun p _ => p)
noncomputable abbrev p_WordRow_next : Arguments := by refine' (?f : (p : Arguments) → fA (sn 55 2) = p → Arguments) _ ?h; (case h => conv => (lhs; whnf; simp only [q.s_self])); (case f => exact fun p _ => p)
noncomputable abbrev b_WordRow_next : List Stmt := by refine' (?f : (p : List Stmt) → fB (sn 55 2) = p → List Stmt) _ ?h; (case h => conv => (lhs; whnf; simp only [q.s_word,q.s_self,q.s_peek,q.s_at,q.s_len,q.s_words])); (case f => exact fun p _ => p)
noncomputable abbrev e_WordRow_next : Scope := by refine' (?f : (p : Scope) → fS (sn 55 2) = p → Scope) _ ?h; (case h => conv => (lhs; whnf; simp only [q.s_self,q.s_word,q.s_len])); (case f => exact fun p _ => p)
noncomputable abbrev p_WordRow_close_by_error : Arguments := by refine' (?f : (p : Arguments) → fA (sn 55 3) = p → Arguments) _ ?h; (case h => conv => (lhs; whnf; simp only [q.s_self])); (case f => exact fun p _ => p)
noncomputable abbrev b_WordRow_close_by_error : List Stmt := by refine' (?f : (p : List Stmt) → fB (sn 55 3) = p → List Stmt) _ ?h; (case h => conv => (lhs; whnf)); (case f => exact fun p _ => p)
noncomputable abbrev p_WordRow_is_joined : Arguments := by refine' (?f : (p : Arguments) → fA (sn 55 4) = p → Arguments) _ ?h; (case h => conv => (lhs; whnf; simp only [q.s_self])); (case f => exact fun p _ => p)
noncomputable abbrev b_WordRow_is_joined : List Stmt := by refine' (?f : (p : List Stmt) → fB (sn 55 4) = p → List Stmt) _ ?h; (case h => conv => (lhs; whnf; simp only [q.h_0])); (case f => exact fun p _ => p)
noncomputable abbrev c_55 : Stmt := .ClassDef s_WordRow [] [] [.FunctionDef h_2 p_WordRowd_initd b_WordRowd_initd [] none [] e_WordRowd_initd none h_2 ⟨402,4,405,19⟩,.FunctionDef s_peek p_WordRow_peek b_WordRow_peek [] none [] e_WordRow_peek none s_peek ⟨407,4,408,77⟩,.FunctionDef s_next p_WordRow_next b_WordRow_next [] none [] e_WordRow_next none s_next ⟨410,4,414,19⟩,.FunctionDef s_close_by_error p_WordRow_close_by_error b_WordRow_close_by_error [] none [] e_Cursor_peek none s_close_by_error ⟨416,4,417,20⟩,.FunctionDef s_is_joined p_WordRow_is_joined b_WordRow_is_joined [] none [] e_Cursor_is_joined none s_is_joined ⟨419,4,420,16⟩] [] [] ⟨.class,[(h_2,.local),(s_peek,.local),(s_next,.local),(s_close_by_error,.local),(s_is_joined,.local)],false,false,[]⟩ none s_WordRow [s_at,s_end,s_words] ⟨400,0,420,16⟩
noncomputable abbrev c_56 : Stmt := by refine' (?f : (p : Stmt) → sm 56 = p → Stmt) _ ?h; (case h => conv => (lhs; whnf; simp only [q.h_1,q.t19])); (case f => exact fun p _ => p)
noncomputable abbrev p_Wordd_initd : Arguments := by refine' (?f : (p : Arguments) → fA (sn 57 0) = p → Arguments) _ ?h; (case h => conv => (lhs; whnf; simp only [q.s_self,q.s_kind,q.s_text,q.s_line,q.s_column,q.s_value,q.s_is_first])); (case f => exact fun p _ => p)
noncomputable abbrev b_Wordd_initd : List Stmt := by refine' (?f : (p : List Stmt) → fB (sn 57 0) = p → List Stmt) _ ?h; (case h => conv => (lhs; whnf; simp only [q.s_self,q.s_kind,q.s_text,q.s_line,q.s_column,q.s_value,q.s_is_first])); (case f => exact fun p _ => p)
noncomputable abbrev e_Wordd_initd : Scope := by refine' (?f : (p : Scope) → fS (sn 57 0) = p → Scope) _ ?h; (case h => conv => (lhs; whnf; simp only [q.s_self,q.s_kind,q.s_text,q.s_line,q.s_column,q.s_value,q.s_is_first])); (case f => exact fun p _ => p)
noncomputable abbrev p_Word_place : Arguments := by refine' (?f : (p : Arguments) → fA (sn 57 1) = p → Arguments) _ ?h; (case h => conv => (lhs; whnf; simp only [q.s_self])); (case f => exact fun p _ => p)
noncomputable abbrev b_Word_place : List Stmt := by refine' (?f : (p : List Stmt) → fB (sn 57 1) = p → List Stmt) _ ?h; (case h => conv => (lhs; whnf; simp only [q.s_self,q.s_line,q.s_column])); (case f => exact fun p _ => p)
noncomputable abbrev p_Word_is_word : Arguments := by refine' (?f : (p : Arguments) → fA (sn 57 2) = p → Arguments) _ ?h; (case h => conv => (lhs; whnf; simp only [q.s_self,q.s_kind,q.s_text])); (case f => exact fun p _ => p)
noncomputable abbrev b_Word_is_word : List Stmt := by refine' (?f : (p : List Stmt) → fB (sn 57 2) = p → List Stmt) _ ?h; (case h => conv => (lhs; whnf; simp only [q.s_self,q.s_kind,q.s_text])); (case f => exact fun p _ => p)
noncomputable abbrev c_57 : Stmt := .ClassDef s_Word [] [] [.FunctionDef h_2 p_Wordd_initd b_Wordd_initd [] none [] e_Wordd_initd none h_2 ⟨424,4,430,32⟩,.FunctionDef s_place p_Word_place b_Word_place [] none [] e_Cursor_peek none s_place ⟨432,4,433,39⟩,.FunctionDef s_is_word p_Word_is_word b_Word_is_word [] none [] e_Cursor_take none s_is_word ⟨435,4,436,54⟩] [] [] ⟨.class,[(h_2,.local),(s_place,.local),(s_is_word,.local)],false,false,[]⟩ none s_Word [s_column,s_is_first,s_kind,s_line,s_text,s_value] ⟨422,0,436,54⟩
noncomputable abbrev c_58 : Stmt := by refine' (?f : (p : Stmt) → sm 58 = p → Stmt) _ ?h; (case h => conv => (lhs; whnf; simp only [q.h_1,q.s_law_pq0612_01])); (case f => exact fun p _ => p)
noncomputable abbrev p_x_law_brook : Arguments := by refine' (?f : (p : Arguments) → fA (sm 59) = p → Arguments) _ ?h; (case h => conv => (lhs; whnf; simp only [q.s_script,q.s_k])); (case f => exact fun p _ => p)
noncomputable abbrev b_x_law_brook : List Stmt := by refine' (?f : (p : List Stmt) → fB (sm 59) = p → List Stmt) _ ?h; (case h => conv => (lhs; whnf; simp only [q.s_number,q.s_k,q.s_len,q.s_script,q.s_abs])); (case f => exact fun p _ => p)
noncomputable abbrev e_x_law_brook : Scope := by refine' (?f : (p : Scope) → fS (sm 59) = p → Scope) _ ?h; (case h => conv => (lhs; whnf; simp only [q.s_script,q.s_k,q.s_number,q.s_len,q.s_abs])); (case f => exact fun p _ => p)
noncomputable abbrev c_59 : Stmt := .FunctionDef l_brook p_x_law_brook b_x_law_brook [] none [] e_x_law_brook none l_brook ⟨438,0,440,68⟩
noncomputable abbrev p_x_law_cup : Arguments := by refine' (?f : (p : Arguments) → fA (sm 60) = p → Arguments) _ ?h; (case h => conv => (lhs; whnf; simp only [q.s_brook,q.s_many])); (case f => exact fun p _ => p)
noncomputable abbrev b_x_law_cup : List Stmt := by refine' (?f : (p : List Stmt) → fB (sm 60) = p → List Stmt) _ ?h; (case h => conv => (lhs; whnf; simp only [q.s_brook,q.s_got,q.s_many])); (case f => exact fun p _ => p)
noncomputable abbrev e_x_law_cup : Scope := by refine' (?f : (p : Scope) → fS (sm 60) = p → Scope) _ ?h; (case h => conv => (lhs; whnf; simp only [q.s_brook,q.s_many,q.s_got])); (case f => exact fun p _ => p)
noncomputable abbrev c_60 : Stmt := .FunctionDef l_cup p_x_law_cup b_x_law_cup [] none [] e_x_law_cup none l_cup ⟨441,0,445,14⟩
noncomputable abbrev p_x_law_sign : Arguments := by refine' (?f : (p : Arguments) → fA (sm 61) = p → Arguments) _ ?h; (case h => conv => (lhs; whnf; simp only [q.s_text])); (case f => exact fun p _ => p)
noncomputable abbrev b_x_law_sign : List Stmt := by refine' (?f : (p : List Stmt) → fB (sm 61) = p → List Stmt) _ ?h; (case h => conv => (lhs; whnf; simp only [q.s_Word,q.s_special,q.s_text])); (case f => exact fun p _ => p)
noncomputable abbrev e_x_law_sign : Scope := by refine' (?f : (p : Scope) → fS (sm 61) = p → Scope) _ ?h; (case h => conv => (lhs; whnf; simp only [q.s_text,q.s_Word])); (case f => exact fun p _ => p)
noncomputable abbrev c_61 : Stmt := .FunctionDef l_sign p_x_law_sign b_x_law_sign [] none [] e_x_law_sign none l_sign ⟨446,0,447,38⟩
noncomputable abbrev p_x_law_number : Arguments := by refine' (?f : (p : Arguments) → fA (sm 62) = p → Arguments) _ ?h; (case h => conv => (lhs; whnf; simp only [q.s_value])); (case f => exact fun p _ => p)
noncomputable abbrev b_x_law_number : List Stmt := by refine' (?f : (p : List Stmt) → fB (sm 62) = p → List Stmt) _ ?h; (case h => conv => (lhs; whnf; simp only [q.s_size,q.s_Word,q.s_int,q.s_str,q.s_abs,q.s_value,q.s_words,q.s_varsym,q.h_12,q.s_items,q.s_Op,q.s_Lit,q.s_plit])); (case f => exact fun p _ => p)
noncomputable abbrev e_x_law_number : Scope := by refine' (?f : (p : Scope) → fS (sm 62) = p → Scope) _ ?h; (case h => conv => (lhs; whnf; simp only [q.s_value,q.s_size,q.s_words,q.s_items,q.s_Word,q.s_str,q.s_abs,q.s_Op,q.s_Lit])); (case f => exact fun p _ => p)
noncomputable abbrev c_62 : Stmt := .FunctionDef l_number p_x_law_number b_x_law_number [] none [] e_x_law_number none l_number ⟨448,0,452,49⟩
noncomputable abbrev p_x_law_operator : Arguments := by refine' (?f : (p : Arguments) → fA (sm 63) = p → Arguments) _ ?h; (case h => conv => (lhs; whnf; simp only [q.s_brook])); (case f => exact fun p _ => p)
noncomputable abbrev b_x_law_operator : List Stmt := by refine' (?f : (p : List Stmt) → fB (sm 63) = p → List Stmt) _ ?h; (case h => conv => (lhs; whnf; simp only [q.s_way,q.l_cup,q.s_brook,q.s_Word,q.s_op,q.h_10,q.s_Op,q.s_consym,q.h_21,q.h_22,q.s_M,q.h_23,q.s_words,q.l_sign,q.h_11,q.s_con,q.s_Cat])); (case f => exact fun p _ => p)
noncomputable abbrev e_x_law_operator : Scope := by refine' (?f : (p : Scope) → fS (sm 63) = p → Scope) _ ?h; (case h => conv => (lhs; whnf; simp only [q.s_brook,q.s_way,q.s_words,q.l_cup,q.s_Word,q.s_Op,q.l_sign])); (case f => exact fun p _ => p)
noncomputable abbrev c_63 : Stmt := .FunctionDef l_operator p_x_law_operator b_x_law_operator [] none [] e_x_law_operator none l_operator ⟨453,0,462,56⟩
noncomputable abbrev p_x_law_whole : Arguments := by refine' (?f : (p : Arguments) → fA (sm 64) = p → Arguments) _ ?h; (case h => conv => (lhs; whnf; simp only [q.s_told])); (case f => exact fun p _ => p)
noncomputable abbrev b_x_law_whole : List Stmt := by refine' (?f : (p : List Stmt) → fB (sm 64) = p → List Stmt) _ ?h; (case h => conv => (lhs; whnf; simp only [q.s_len,q.s_told,q.s_Infix])); (case f => exact fun p _ => p)
noncomputable abbrev e_x_law_whole : Scope := by refine' (?f : (p : Scope) → fS (sm 64) = p → Scope) _ ?h; (case h => conv => (lhs; whnf; simp only [q.s_told,q.s_len,q.s_Infix])); (case f => exact fun p _ => p)
noncomputable abbrev c_64 : Stmt := .FunctionDef l_whole p_x_law_whole b_x_law_whole [] none [] e_x_law_whole none l_whole ⟨463,0,464,62⟩
noncomputable abbrev p_x_law_listed : Arguments := by refine' (?f : (p : Arguments) → fA (sm 65) = p → Arguments) _ ?h; (case h => conv => (lhs; whnf; simp only [q.s_brook,q.s_deep,q.s_begin,q.s_end,q.s_least_many])); (case f => exact fun p _ => p)
noncomputable abbrev b_x_law_listed : List Stmt := by refine' (?f : (p : List Stmt) → fB (sm 65) = p → List Stmt) _ ?h; (case h => conv => (lhs; whnf; simp only [q.s_words,q.s_rows,q.s_found,q.l_sign,q.s_begin,q.s_at,q.s_range,q.s_least_many,q.l_cup,q.s_brook,q.s_told,q.l_pattern,q.s_deep,q.h_5,q.s_append,q.l_whole,q.s_end,q.s_tuple])); (case f => exact fun p _ => p)
noncomputable abbrev e_x_law_listed : Scope := by refine' (?f : (p : Scope) → fS (sm 65) = p → Scope) _ ?h; (case h => conv => (lhs; whnf; simp only [q.s_brook,q.s_deep,q.s_begin,q.s_end,q.s_least_many,q.s_words,q.s_rows,q.s_found,q.s_at,q.s_told,q.l_sign,q.s_range,q.l_cup,q.l_pattern,q.l_whole,q.s_tuple])); (case f => exact fun p _ => p)
noncomputable abbrev c_65 : Stmt := .FunctionDef l_listed p_x_law_listed b_x_law_listed [] none [] e_x_law_listed none l_listed ⟨465,0,472,57⟩
noncomputable abbrev p_x_law_atom : Arguments := by refine' (?f : (p : Arguments) → fA (sm 66) = p → Arguments) _ ?h; (case h => conv => (lhs; whnf; simp only [q.s_brook,q.s_deep])); (case f => exact fun p _ => p)
noncomputable abbrev b_x_law_atom : List Stmt := by refine' (?f : (p : List Stmt) → fB (sm 66) = p → List Stmt) _ ?h; (case h => conv => (lhs; whnf; simp only [q.s_way,q.l_cup,q.s_brook,q.s_deep,q.s_name,q.s_abc,q.s_Word,q.s_var,q.s_pvar,q.s_Var,q.s_told,q.l_number,q.s_key,q.h_15,q.s_pwild,q.s_PWild,q.s_con,q.s_Nil,q.s_M,q.s_pcon,q.h_24,q.s_Con,q.s_char,q.h_25,q.s_plit,q.s_Lit,q.s_mark,q.s_head,q.s_op,q.h_18,q.h_16,q.s_varsym,q.h_17,q.s_row,q.s_pas,q.s_d,q.s_plazy,q.s_pbang,q.s_node,q.s_PAs,q.s_PVar,q.s_PLazy,q.s_PBang,q.s_words,q.s_rows,q.s_found,q.l_listed,q.h_13,q.h_3,q.s_ptuple,q.s_Tuple,q.h_14,q.h_4,q.s_plist,q.s_ListOf,q.l_pattern,q.l_sign,q.s_pparen,q.s_Paren,q.l_whole])); (case f => exact fun p _ => p)
noncomputable abbrev e_x_law_atom : Scope := by refine' (?f : (p : Scope) → fS (sm 66) = p → Scope) _ ?h; (case h => conv => (lhs; whnf; simp only [q.s_brook,q.s_deep,q.s_way,q.s_name,q.s_told,q.s_mark,q.s_head,q.s_row,q.s_node,q.s_words,q.s_rows,q.s_found,q.l_cup,q.s_Word,q.s_Var,q.l_number,q.s_PWild,q.s_Con,q.s_Lit,q.s_PAs,q.s_PVar,q.s_PLazy,q.s_PBang,q.l_listed,q.s_Tuple,q.s_ListOf,q.l_pattern,q.l_sign,q.s_Paren,q.l_whole])); (case f => exact fun p _ => p)
noncomputable abbrev c_66 : Stmt := .FunctionDef l_atom p_x_law_atom b_x_law_atom [] none [] e_x_law_atom none l_atom ⟨473,0,501,104⟩
noncomputable abbrev p_x_law_part : Arguments := by refine' (?f : (p : Arguments) → fA (sm 67) = p → Arguments) _ ?h; (case h => conv => (lhs; whnf; simp only [q.s_brook,q.s_deep])); (case f => exact fun p _ => p)
noncomputable abbrev b_x_law_part : List Stmt := by refine' (?f : (p : List Stmt) → fB (sm 67) = p → List Stmt) _ ?h; (case h => conv => (lhs; whnf; simp only [q.s_way,q.l_cup,q.s_brook,q.l_number,q.s_told,q.l_atom,q.s_deep,q.s_words,q.s_name,q.s_Word,q.s_con,q.s_Cat,q.l_sign,q.h_13,q.s_consym,q.h_21,q.h_3,q.s_rows,q.s_node,q.s_Con,q.s_turn,q.s_range,q.s_append,q.s_App,q.s_pcon,q.s_tuple])); (case f => exact fun p _ => p)
noncomputable abbrev e_x_law_part : Scope := by refine' (?f : (p : Scope) → fS (sm 67) = p → Scope) _ ?h; (case h => conv => (lhs; whnf; simp only [q.s_brook,q.s_deep,q.s_way,q.s_told,q.s_words,q.s_name,q.s_rows,q.s_node,q.s_turn,q.l_cup,q.l_number,q.l_atom,q.s_Word,q.l_sign,q.s_Con,q.s_range,q.s_App,q.s_tuple])); (case f => exact fun p _ => p)
noncomputable abbrev c_67 : Stmt := .FunctionDef l_part p_x_law_part b_x_law_part [] none [] e_x_law_part none l_part ⟨502,0,518,55⟩
noncomputable abbrev p_x_law_pattern : Arguments := by refine' (?f : (p : Arguments) → fA (sm 68) = p → Arguments) _ ?h; (case h => conv => (lhs; whnf; simp only [q.s_brook,q.s_deep])); (case f => exact fun p _ => p)
noncomputable abbrev b_x_law_pattern : List Stmt := by refine' (?f : (p : List Stmt) → fB (sm 68) = p → List Stmt) _ ?h; (case h => conv => (lhs; whnf; simp only [q.s_words,q.s_row,q.s_items,q.l_part,q.s_brook,q.s_deep,q.s_rows,q.s_turn,q.s_range,q.l_cup,q.s_sign,q.s_part,q.l_operator,q.s_len,q.s_pinfix,q.s_tuple])); (case f => exact fun p _ => p)
noncomputable abbrev e_x_law_pattern : Scope := by refine' (?f : (p : Scope) → fS (sm 68) = p → Scope) _ ?h; (case h => conv => (lhs; whnf; simp only [q.s_brook,q.s_deep,q.s_words,q.s_row,q.s_items,q.s_rows,q.s_turn,q.s_sign,q.s_part,q.l_part,q.s_range,q.l_cup,q.l_operator,q.s_len,q.s_tuple])); (case f => exact fun p _ => p)
noncomputable abbrev c_68 : Stmt := .FunctionDef l_pattern p_x_law_pattern b_x_law_pattern [] none [] e_x_law_pattern none l_pattern ⟨519,0,525,77⟩
noncomputable abbrev p_x_law_read : Arguments := by refine' (?f : (p : Arguments) → fA (sm 69) = p → Arguments) _ ?h; (case h => conv => (lhs; whnf; simp only [q.s_words])); (case f => exact fun p _ => p)
noncomputable abbrev b_x_law_read : List Stmt := by refine' (?f : (p : List Stmt) → fB (sm 69) = p → List Stmt) _ ?h; (case h => conv => (lhs; whnf; simp only [q.s_row_here,q.s_WordRow,q.s_words,q.s_Word,q.s_end,q.h_nil,q.s_told,q.s_read_pattern_at,q.s_Cursor,q.s_ReadError,q.s_row,q.s_at])); (case f => exact fun p _ => p)
noncomputable abbrev e_x_law_read : Scope := by refine' (?f : (p : Scope) → fS (sm 69) = p → Scope) _ ?h; (case h => conv => (lhs; whnf; simp only [q.s_words,q.s_row_here,q.s_told,q.s_WordRow,q.s_Word,q.s_read_pattern_at,q.s_Cursor,q.s_ReadError])); (case f => exact fun p _ => p)
noncomputable abbrev c_69 : Stmt := .FunctionDef l_read p_x_law_read b_x_law_read [] none [] e_x_law_read none l_read ⟨526,0,532,36⟩
noncomputable abbrev p_x_law_turned : Arguments := by refine' (?f : (p : Arguments) → fA (sm 70) = p → Arguments) _ ?h; (case h => conv => (lhs; whnf; simp only [q.s_expression])); (case f => exact fun p _ => p)
noncomputable abbrev b_x_law_turned : List Stmt := by refine' (?f : (p : List Stmt) → fB (sm 70) = p → List Stmt) _ ?h; (case h => conv => (lhs; whnf; simp only [q.s_pattern_of,q.s_expression,q.s_row,q.s_ReadError])); (case f => exact fun p _ => p)
noncomputable abbrev e_x_law_turned : Scope := by refine' (?f : (p : Scope) → fS (sm 70) = p → Scope) _ ?h; (case h => conv => (lhs; whnf; simp only [q.s_expression,q.s_pattern_of,q.s_ReadError])); (case f => exact fun p _ => p)
noncomputable abbrev c_70 : Stmt := .FunctionDef l_turned p_x_law_turned b_x_law_turned [] none [] e_x_law_turned none l_turned ⟨533,0,537,19⟩
noncomputable abbrev p_x_law_fixed_right : Arguments := by refine' (?f : (p : Arguments) → fA (sm 71) = p → Arguments) _ ?h; (case h => conv => (lhs; whnf)); (case f => exact fun p _ => p)
noncomputable abbrev b_x_law_fixed_right : List Stmt := by refine' (?f : (p : List Stmt) → fB (sm 71) = p → List Stmt) _ ?h; (case h => conv => (lhs; whnf; simp only [q.s_a,q.s_minus,q.s_one,q.s_Word,q.s_var,q.s_varsym,q.h_12,q.s_int,q.h_26,q.s_cons,q.s_tick,q.s_con,q.s_op,q.h_10,q.l_sign,q.h_11,q.s_Cat,q.s_words,q.h_13,q.l_read,q.s_pcon,q.s_plit,q.s_row,q.s_pinfix,q.s_pvar,q.s_less,q.s_more,q.s_Op,q.h_27,q.l_turned,q.s_Infix,q.s_Var,q.s_Lit,q.s_wrong,q.s_b,q.s_App,q.s_f,q.h_28,q.s_one_wrong,q.t9])); (case f => exact fun p _ => p)
noncomputable abbrev e_x_law_fixed_right : Scope := by refine' (?f : (p : Scope) → fS (sm 71) = p → Scope) _ ?h; (case h => conv => (lhs; whnf; simp only [q.s_a,q.s_minus,q.s_one,q.s_cons,q.s_tick,q.s_con,q.s_words,q.s_row,q.s_less,q.s_more,q.s_wrong,q.s_Word,q.l_sign,q.l_read,q.s_Op,q.l_turned,q.s_Infix,q.s_Var,q.s_Lit,q.s_App,q.t10,q.s_one_wrong])); (case f => exact fun p _ => p)
noncomputable abbrev c_71 : Stmt := .FunctionDef l_fixed_right p_x_law_fixed_right b_x_law_fixed_right [] none [] e_x_law_fixed_right none l_fixed_right ⟨538,0,555,89⟩
noncomputable abbrev p_law : Arguments := by refine' (?f : (p : Arguments) → fA (sm 72) = p → Arguments) _ ?h; (case h => conv => (lhs; whnf; simp only [q.s_script])); (case f => exact fun p _ => p)
noncomputable abbrev b_law : List Stmt := by refine' (?f : (p : List Stmt) → fB (sm 72) = p → List Stmt) _ ?h; (case h => conv => (lhs; whnf; simp only [q.l_fixed_right,q.s_k,q.s_range,q.s_max,q.s_min,q.s_len,q.s_script,q.s_brook,q.l_brook,q.s_words,q.s_row,q.s_items,q.l_pattern,q.l_cup,q.l_read,q.l_turned,q.l_whole])); (case f => exact fun p _ => p)
noncomputable abbrev e_law : Scope := by refine' (?f : (p : Scope) → fS (sm 72) = p → Scope) _ ?h; (case h => conv => (lhs; whnf; simp only [q.s_script,q.s_k,q.s_brook,q.s_words,q.s_row,q.s_items,q.l_fixed_right,q.s_range,q.s_max,q.s_min,q.s_len,q.l_brook,q.l_pattern,q.l_cup,q.l_read,q.l_turned,q.l_whole])); (case f => exact fun p _ => p)
noncomputable abbrev c_72 : Stmt := .FunctionDef s_law p_law b_law [] none [] e_law none s_law ⟨556,0,564,15⟩
noncomputable def pq_rest : Program := PySem.Challenge.pw_pq0612_01
noncomputable def pq_scope : Scope := by refine' (?f : (p : Scope) → PySem.Challenge.pw_pq0612_01.main.scope = p → Scope) _ ?h; (case h => conv => (lhs; whnf; simp only [q.h_0,q.h_1,q.s_LazyError,q.s_Exception,q.s_ReadError,q.s_VIRTUAL,q.s_is_virtual,q.s_CLOSING_KEYS,q.s_CLOSING_SIGNS,q.s_full_name,q.s_Cursor,q.s_rows_of,q.s_Node,q.s_Var,q.s_Con,q.s_Lit,q.s_App,q.s_Op,q.s_Infix,q.s_Tuple,q.s_ListOf,q.s_Paren,q.s_PVar,q.s_PWild,q.s_PLit,q.s_PCon,q.s_PTuple,q.s_PList,q.s_PAs,q.s_PLazy,q.s_PBang,q.s_PInfix,q.s_PParen,q.s_LITERALS,q.s_read_pattern_at,q.s_is_con_operator,q.s_read_con_operator,q.s_read_part,q.s_read_con_name,q.s_is_con_symbol,q.s_is_pattern_atom,q.s_read_atom_pattern,q.s_read_several,q.s_read_list_pattern,q.s_read_bracketed_pattern,q.s_is_plain_name,q.s_pattern_of,q.s_applied_pattern,q.s_infix_pattern,q.s_con_operator,q.s_WordRow,q.s_Word,q.l_brook,q.l_cup,q.l_sign,q.l_number,q.l_operator,q.l_whole,q.l_listed,q.l_atom,q.l_part,q.l_pattern,q.l_read,q.l_turned,q.l_fixed_right,q.s_law])); (case f => exact fun p _ => p)
noncomputable def pq_body : List Stmt := [c_0,c_1,c_2,c_3,c_4,c_5,c_6,c_7,c_8,c_9,c_10,c_11,c_12,c_13,c_14,c_15,c_16,c_17,c_18,c_19,c_20,c_21,c_22,c_23,c_24,c_25,c_26,c_27,c_28,c_29,c_30,c_31,c_32,c_33,c_34,c_35,c_36,c_37,c_38,c_39,c_40,c_41,c_42,c_43,c_44,c_45,c_46,c_47,c_48,c_49,c_50,c_51,c_52,c_53,c_54,c_55,c_56,c_57,c_58,c_59,c_60,c_61,c_62,c_63,c_64,c_65,c_66,c_67,c_68,c_69,c_70,c_71,c_72]
noncomputable def pq : Program := ⟨⟨pq_body,pq_scope,false,t20,[]⟩,[],[],[],[],⟨[],[],some [([76,67,95,65,76,76],[67,46,85,84,70,45,56])],none,none,[],[]⟩⟩
noncomputable abbrev k1  : Obj := ⟨.type "tuple",none,.seq ⟨[]⟩ 0,⟨[]⟩⟩
noncomputable abbrev k2  : Obj := ⟨.none,none,.fields ⟨[]⟩,⟨[]⟩⟩
noncomputable abbrev k3 (x0 : Str) (x1 : Nat) (x2 : Nat) (x3 : Nat) (x4 : Int) (x5 : Nat) (x6 : Int) (x7 : Nat) (x8 : Int) (x9 : Nat) : Obj := ⟨.type "code",none,.fields ⟨[.str x0 x1,.str x0 x2,.str t20 x3,.int x4 0,.int 0 0,.int 0 0,.int 0 0,.int 0 0,.ref x5,.bool false,.int x6 0,.ref x7,.none,.none,.none,.none,.int x8 0,.int x4 0,.str t20 x9]⟩,⟨[]⟩⟩
noncomputable abbrev k4 (x0 : Nat) (x1 : Nat) (x2 : Str) (x3 : Nat) : Obj := ⟨.type "frame",none,.plain,⟨[some (.ref x0),some (.ref 3),some (.ref x1),none,some (.str x2 x3),none,some (.ref 0)]⟩⟩
noncomputable abbrev k5 (x0 : Str) (x1 : Nat) : Obj := ⟨.type "tuple",none,.seq ⟨[.str x0 x1]⟩ 0,⟨[]⟩⟩
noncomputable abbrev k6 (x0 : Str) (x1 : Str) (x2 : Arguments) (x3 : List Stmt) (x4 : Scope) : Obj := ⟨.none,none,.func ⟨x0,x1,x2,.stmts x3,x4,0,[],.none,.none,.none,.none,none,.none,.none,0⟩,⟨[]⟩⟩
noncomputable abbrev k7 (x0 : Str) (x1 : Nat) (x2 : Str) (x3 : Nat) (x4 : Nat) (x5 : Int) (x6 : Int) (x7 : Nat) (x8 : Nat) (x9 : Nat) (x10 : Nat) (x11 : Nat) (x12 : Int) (x13 : Nat) : Obj := ⟨.type "code",none,.fields ⟨[.str x0 x1,.str x2 x3,.str t20 x4,.int x5 0,.int x6 0,.int 0 0,.int 0 0,.int 3 0,.ref x7,.bool true,.int 181 0,.ref x8,.none,.ref x9,.ref x10,.ref x11,.int x12 0,.int x5 0,.str t20 x13]⟩,⟨[]⟩⟩
noncomputable abbrev k8 (x0 : Str) (x1 : Str) (x2 : Arguments) (x3 : List Stmt) (x4 : Scope) (x5 : Str) (x6 : Nat) (x7 : Nat) : Obj := ⟨.type "function",none,.func ⟨x0,x1,x2,.stmts x3,x4,3,[],.none,.none,.none,.str x5 x6,none,.ref x7,.none,0⟩,⟨[]⟩⟩
noncomputable abbrev k9  : Obj := ⟨.type "builtin_function_or_method",none,.fields ⟨[.builtin "type.__prepare__",.type "type"]⟩,⟨[]⟩⟩
noncomputable abbrev k10  : Obj := ⟨.type "tuple",none,.seq ⟨[.none]⟩ 0,⟨[]⟩⟩
noncomputable abbrev k11 (x0 : Str) (x1 : Nat) (x2 : Str) (x3 : Nat) (x4 : Str) (x5 : Nat) : Obj := ⟨.type "tuple",none,.seq ⟨[.str x0 x1,.str x2 x3,.str x4 x5]⟩ 0,⟨[]⟩⟩
noncomputable abbrev k12 (x0 : Str) (x1 : Str) (x2 : Arguments) (x3 : List Stmt) (x4 : Scope) (x5 : Nat) (x6 : Str) (x7 : Nat) (x8 : Nat) : Obj := ⟨.type "function",none,.func ⟨x0,x1,x2,.stmts x3,x4,3,[],.ref x5,.none,.none,.str x6 x7,none,.ref x8,.none,0⟩,⟨[]⟩⟩
noncomputable abbrev k13 (x0 : Str) (x1 : Nat) (x2 : Str) (x3 : Nat) : Obj := ⟨.type "tuple",none,.seq ⟨[.str x0 x1,.str x2 x3]⟩ 0,⟨[]⟩⟩
noncomputable abbrev k14 (P : Params) (x0 : Nat) (x1 : Str) (x2 : Nat) (x3 : Nat) (x4 : Int) (x5 : Nat) (x6 : Nat) (x7 : Nat) (x8 : Str) (x9 : Nat) (x10 : Nat) (x11 : Str) (x12 : Nat) (x13 : Nat) (x14 : Nat) (x15 : Nat) : Obj := ⟨.type "dict",none,.dict ⟨[⟨PySem.PyData.keyHash P t176,.str t176 x0,.str x1 x2⟩,⟨PySem.PyData.keyHash P t178,.str t178 x3,.int x4 x5⟩,⟨PySem.PyData.keyHash P h_2,.str h_2 x6,.ref x7⟩,⟨PySem.PyData.keyHash P x8,.str x8 x9,.ref x10⟩,⟨PySem.PyData.keyHash P x11,.str x11 x12,.ref x13⟩,⟨PySem.PyData.keyHash P t22,.str t22 x14,.none⟩]⟩ x15,⟨[]⟩⟩
noncomputable abbrev k15 (x0 : Nat) (x1 : Nat) : Obj := ⟨.type "getset_descriptor",none,.fields ⟨[.str t181 x0,.ref x1,.builtin "ExceptionGroup.__weakref__",.none]⟩,⟨[]⟩⟩
noncomputable abbrev k16 (x0 : Nat) : Obj := ⟨.type "super",none,.fields ⟨[.ref x0,.ref x0,.ref x0]⟩,⟨[]⟩⟩
noncomputable abbrev k17 (x0 : Nat) : Obj := ⟨.type "builtin_function_or_method",none,.fields ⟨[.builtin "object.__init_subclass__",.ref x0]⟩,⟨[]⟩⟩
noncomputable abbrev k18 (x0 : Nat) : Obj := ⟨.type "tuple",none,.seq ⟨[.ref x0]⟩ 0,⟨[]⟩⟩
noncomputable abbrev k19 (x0 : Str) (x1 : Nat) (x2 : Str) (x3 : Nat) (x4 : Str) (x5 : Nat) (x6 : Str) (x7 : Nat) : Obj := ⟨.type "tuple",none,.seq ⟨[.str x0 x1,.str x2 x3,.str x4 x5,.str x6 x7]⟩ 0,⟨[]⟩⟩
noncomputable abbrev k20 (x0 : Str) (x1 : Nat) (x2 : Nat) (x3 : Nat) (x4 : Nat) : Obj := ⟨.type "type",none,.cls ⟨x0,[.type "object"],[.ref x1,.type "object"],x2,x0,true,[],[],false,none,false⟩,⟨[none,none,some (.str x0 x3),some (.str x0 x4),some (.builtin "object.__new__"),some (.bool true)]⟩⟩
noncomputable abbrev k21 (x0 : Nat) (x1 : Nat) : Obj := ⟨.type "getset_descriptor",none,.fields ⟨[.str t195 x0,.ref x1,.builtin "function.__dict__",.builtin "function.__dict__#set"]⟩,⟨[]⟩⟩
noncomputable abbrev k22 (x0 : Str) (x1 : Nat) (x2 : Nat) (x3 : Nat) (x4 : Int) (x5 : Int) (x6 : Nat) (x7 : Nat) (x8 : Nat) (x9 : Int) (x10 : Nat) : Obj := ⟨.type "code",none,.fields ⟨[.str x0 x1,.str x0 x2,.str t20 x3,.int x4 0,.int x5 0,.int 0 0,.int 0 0,.int 3 0,.ref x6,.bool true,.int 181 0,.ref x7,.none,.none,.none,.ref x8,.int x9 0,.int x4 0,.str t20 x10]⟩,⟨[]⟩⟩
noncomputable abbrev k23 (P : Params) (x0 : Nat) (x1 : Str) (x2 : Nat) (x3 : Nat) (x4 : Str) (x5 : Nat) (x6 : Nat) (x7 : Int) (x8 : Nat) (x9 : Nat) (x10 : Nat) (x11 : Nat) (x12 : Nat) (x13 : Nat) (x14 : Nat) : Obj := ⟨.type "dict",none,.dict ⟨[⟨PySem.PyData.keyHash P t176,.str t176 x0,.str x1 x2⟩,⟨PySem.PyData.keyHash P t177,.str t177 x3,.str x4 x5⟩,⟨PySem.PyData.keyHash P t178,.str t178 x6,.int x7 x8⟩,⟨PySem.PyData.keyHash P h_2,.str h_2 x9,.ref x10⟩,⟨PySem.PyData.keyHash P s_row,.str s_row x11,.ref x12⟩,⟨PySem.PyData.keyHash P t179,.str t179 x13,.ref x14⟩]⟩ 6,⟨[]⟩⟩
noncomputable abbrev k24 (x0 : Int) (x1 : Nat) (x2 : Int) (x3 : Nat) : Obj := ⟨.none,none,.fields ⟨[.int x0 0,.int 4 0,.ref x1,.int x2 0,.int 4 0,.ref x3]⟩,⟨[]⟩⟩
noncomputable abbrev k25 (x0 : Str) (x1 : Nat) (x2 : Nat) (x3 : Nat) (x4 : Nat) (x5 : Nat) : Obj := ⟨.type "type",none,.cls ⟨x0,[.ref 207],[.ref x1,.ref 207,.type "object"],x2,x0,true,[],[],false,none,false⟩,⟨[some (.ref x3),none,some (.str x0 x4),some (.str x0 x5),some (.builtin "object.__new__"),some (.bool true)]⟩⟩
noncomputable def x3 (P : Params) : List DictEntry := (⟨PySem.PyData.keyHash P t22,.str t22 166,.none⟩::⟨PySem.PyData.keyHash P t23,.str t23 167,.none⟩::⟨PySem.PyData.keyHash P t24,.str t24 168,.builtin "__main__.__loader__#opaque"⟩::⟨PySem.PyData.keyHash P t25,.str t25 169,.none⟩::⟨PySem.PyData.keyHash P t171,.str t171 170,.ref 6⟩::⟨PySem.PyData.keyHash P t172,.str t172 171,.ref 4⟩::⟨PySem.PyData.keyHash P t173,.str t173 173,.str t20 172⟩::⟨PySem.PyData.keyHash P t174,.str t174 174,.none⟩::⟨PySem.PyData.keyHash P h_0,.str h_0 193,.ref 21⟩::⟨PySem.PyData.keyHash P s_LazyError,.str s_LazyError 226,.ref 39⟩::⟨PySem.PyData.keyHash P s_ReadError,.str s_ReadError 242,.ref 52⟩::⟨PySem.PyData.keyHash P s_VIRTUAL,.str s_VIRTUAL 246,.str s_virtual 245⟩::⟨PySem.PyData.keyHash P s_is_virtual,.str s_is_virtual 253,.ref 61⟩::⟨PySem.PyData.keyHash P s_CLOSING_KEYS,.str s_CLOSING_KEYS 260,.ref 62⟩::⟨PySem.PyData.keyHash P s_CLOSING_SIGNS,.str s_CLOSING_SIGNS 265,.ref 63⟩::⟨PySem.PyData.keyHash P s_full_name,.str s_full_name 272,.ref 70⟩::⟨PySem.PyData.keyHash P s_Cursor,.str s_Cursor 403,.ref 174⟩::⟨PySem.PyData.keyHash P s_rows_of,.str s_rows_of 411,.ref 183⟩::⟨PySem.PyData.keyHash P s_Node,.str s_Node 447,.ref 207⟩::⟨PySem.PyData.keyHash P s_Var,.str s_Var 481,.ref 236⟩::⟨PySem.PyData.keyHash P s_Con,.str s_Con 515,.ref 263⟩::⟨PySem.PyData.keyHash P s_Lit,.str s_Lit 550,.ref 290⟩::⟨PySem.PyData.keyHash P s_App,.str s_App 585,.ref 317⟩::⟨PySem.PyData.keyHash P s_Op,.str s_Op 620,.ref 344⟩::⟨PySem.PyData.keyHash P s_Infix,.str s_Infix 653,.ref 371⟩::⟨PySem.PyData.keyHash P s_Tuple,.str s_Tuple 686,.ref 398⟩::⟨PySem.PyData.keyHash P s_ListOf,.str s_ListOf 719,.ref 425⟩::⟨PySem.PyData.keyHash P s_Paren,.str s_Paren 752,.ref 452⟩::⟨PySem.PyData.keyHash P s_PVar,.str s_PVar 787,.ref 479⟩::⟨PySem.PyData.keyHash P s_PWild,.str s_PWild 818,.ref 506⟩::⟨PySem.PyData.keyHash P s_PLit,.str s_PLit 853,.ref 533⟩::⟨PySem.PyData.keyHash P s_PCon,.str s_PCon 888,.ref 560⟩::⟨PySem.PyData.keyHash P s_PTuple,.str s_PTuple 921,.ref 587⟩::⟨PySem.PyData.keyHash P s_PList,.str s_PList 954,.ref 614⟩::⟨PySem.PyData.keyHash P s_PAs,.str s_PAs 989,.ref 641⟩::⟨PySem.PyData.keyHash P s_PLazy,.str s_PLazy 1022,.ref 668⟩::⟨PySem.PyData.keyHash P s_PBang,.str s_PBang 1055,.ref 695⟩::⟨PySem.PyData.keyHash P s_PInfix,.str s_PInfix 1088,.ref 722⟩::⟨PySem.PyData.keyHash P s_PParen,.str s_PParen 1121,.ref 749⟩::⟨PySem.PyData.keyHash P s_LITERALS,.str s_LITERALS 1127,.ref 752⟩::⟨PySem.PyData.keyHash P s_read_pattern_at,.str s_read_pattern_at 1136,.ref 759⟩::⟨PySem.PyData.keyHash P s_is_con_operator,.str s_is_con_operator 1143,.ref 766⟩::⟨PySem.PyData.keyHash P s_read_con_operator,.str s_read_con_operator 1152,.ref 773⟩::⟨PySem.PyData.keyHash P s_read_part,.str s_read_part 1162,.ref 780⟩::⟨PySem.PyData.keyHash P s_read_con_name,.str s_read_con_name 1170,.ref 787⟩::⟨PySem.PyData.keyHash P s_is_con_symbol,.str s_is_con_symbol 1177,.ref 794⟩::⟨PySem.PyData.keyHash P s_is_pattern_atom,.str s_is_pattern_atom 1185,.ref 801⟩::⟨PySem.PyData.keyHash P s_read_atom_pattern,.str s_read_atom_pattern 1194,.ref 808⟩::⟨PySem.PyData.keyHash P s_read_several,.str s_read_several 1202,.ref 815⟩::⟨PySem.PyData.keyHash P s_read_list_pattern,.str s_read_list_pattern 1211,.ref 822⟩::⟨PySem.PyData.keyHash P s_read_bracketed_pattern,.str s_read_bracketed_pattern 1220,.ref 829⟩::⟨PySem.PyData.keyHash P s_is_plain_name,.str s_is_plain_name 1227,.ref 836⟩::⟨PySem.PyData.keyHash P s_pattern_of,.str s_pattern_of 1233,.ref 841⟩::⟨PySem.PyData.keyHash P s_applied_pattern,.str s_applied_pattern 1239,.ref 846⟩::⟨PySem.PyData.keyHash P s_infix_pattern,.str s_infix_pattern 1251,.ref 853⟩::⟨PySem.PyData.keyHash P s_con_operator,.str s_con_operator 1258,.ref 860⟩::⟨PySem.PyData.keyHash P s_WordRow,.str s_WordRow 1321,.ref 905⟩::⟨PySem.PyData.keyHash P s_Word,.str s_Word 1378,.ref 941⟩::⟨PySem.PyData.keyHash P l_brook,.str l_brook 1389,.ref 952⟩::⟨PySem.PyData.keyHash P l_cup,.str l_cup 1398,.ref 959⟩::⟨PySem.PyData.keyHash P l_sign,.str l_sign 1405,.ref 966⟩::⟨PySem.PyData.keyHash P l_number,.str l_number 1415,.ref 973⟩::⟨PySem.PyData.keyHash P l_operator,.str l_operator 1424,.ref 980⟩::⟨PySem.PyData.keyHash P l_whole,.str l_whole 1431,.ref 987⟩::⟨PySem.PyData.keyHash P l_listed,.str l_listed 1447,.ref 994⟩::⟨PySem.PyData.keyHash P l_atom,.str l_atom 1465,.ref 1001⟩::⟨PySem.PyData.keyHash P l_part,.str l_part 1480,.ref 1008⟩::⟨PySem.PyData.keyHash P l_pattern,.str l_pattern 1495,.ref 1015⟩::⟨PySem.PyData.keyHash P l_read,.str l_read 1504,.ref 1022⟩::⟨PySem.PyData.keyHash P l_turned,.str l_turned 1511,.ref 1029⟩::⟨PySem.PyData.keyHash P l_fixed_right,.str l_fixed_right 1517,.ref 1034⟩::⟨PySem.PyData.keyHash P s_law,.str s_law 1529,.ref 1041⟩::[])
noncomputable abbrev g3 (P : Params) (x : Str) (t m n : Nat) : Obj := ⟨.type "dict",none,.dict ⟨⟨PySem.PyData.keyHash P h_1,.str h_1 165,.str x t⟩::(x3 P).take m⟩ n,⟨[]⟩⟩
noncomputable def x12 : List Value := (.int 1 0::.int 0 0::.ref 20::.int 5 0::.int 0 0::.ref 27::.int 11 0::.int 0 0::.ref 48::.int 15 0::.int 0 0::.ref 60::.int 20 0::.int 0 0::.ref 69::.int 22 0::.int 0 0::.ref 76::.int 90 0::.int 0 0::.ref 182::.int 92 0::.int 0 0::.ref 189::.int 99 0::.int 0 0::.ref 217::.int 108 0::.int 0 0::.ref 244::.int 117 0::.int 0 0::.ref 271::.int 126 0::.int 0 0::.ref 298::.int 135 0::.int 0 0::.ref 325::.int 144 0::.int 0 0::.ref 352::.int 152 0::.int 0 0::.ref 379::.int 160 0::.int 0 0::.ref 406::.int 168 0::.int 0 0::.ref 433::.int 177 0::.int 0 0::.ref 460::.int 185 0::.int 0 0::.ref 487::.int 192 0::.int 0 0::.ref 514::.int 201 0::.int 0 0::.ref 541::.int 210 0::.int 0 0::.ref 568::.int 218 0::.int 0 0::.ref 595::.int 226 0::.int 0 0::.ref 622::.int 235 0::.int 0 0::.ref 649::.int 243 0::.int 0 0::.ref 676::.int 251 0::.int 0 0::.ref 703::.int 259 0::.int 0 0::.ref 730::.int 269 0::.int 0 0::.ref 758::.int 276 0::.int 0 0::.ref 765::.int 278 0::.int 0 0::.ref 772::.int 285 0::.int 0 0::.ref 779::.int 297 0::.int 0 0::.ref 786::.int 306 0::.int 0 0::.ref 793::.int 308 0::.int 0 0::.ref 800::.int 317 0::.int 0 0::.ref 807::.int 335 0::.int 0 0::.ref 814::.int 340 0::.int 0 0::.ref 821::.int 346 0::.int 0 0::.ref 828::.int 352 0::.int 0 0::.ref 835::.int 354 0::.int 0 0::.ref 840::.int 372 0::.int 0 0::.ref 845::.int 381 0::.int 0 0::.ref 852::.int 395 0::.int 0 0::.ref 859::.int 400 0::.int 0 0::.ref 866::.int 422 0::.int 0 0::.ref 915::.int 438 0::.int 0 0::.ref 951::.int 441 0::.int 0 0::.ref 958::.int 446 0::.int 0 0::.ref 965::.int 448 0::.int 0 0::.ref 972::.int 453 0::.int 0 0::.ref 979::.int 463 0::.int 0 0::.ref 986::.int 465 0::.int 0 0::.ref 993::.int 473 0::.int 0 0::.ref 1000::.int 502 0::.int 0 0::.ref 1007::.int 519 0::.int 0 0::.ref 1014::.int 526 0::.int 0 0::.ref 1021::.int 533 0::.int 0 0::.ref 1028::.int 538 0::.int 0 0::.ref 1033::.int 556 0::.int 0 0::.ref 1040::[])
noncomputable abbrev g12 (m : Nat) : Obj := ⟨.none,none,.fields ⟨x12.take m⟩,⟨[]⟩⟩
noncomputable def z0 (P : Params) : Obj := ⟨.type "dict",none,.dict ⟨(⟨PySem.PyData.keyHash P h_1,.str h_1 1,.str t21 160⟩::⟨PySem.PyData.keyHash P t22,.str t22 2,.builtin "builtins.__doc__:str#opaque"⟩::⟨PySem.PyData.keyHash P t23,.str t23 3,.builtin "builtins.__package__:str#opaque"⟩::⟨PySem.PyData.keyHash P t24,.str t24 4,.builtin "builtins.__loader__:shared#opaque"⟩::⟨PySem.PyData.keyHash P t25,.str t25 5,.builtin "builtins.__spec__#opaque"⟩::⟨PySem.PyData.keyHash P t26,.str t26 6,.builtin "__build_class__"⟩::⟨PySem.PyData.keyHash P t27,.str t27 7,.builtin "__import__"⟩::⟨PySem.PyData.keyHash P s_abs,.str s_abs 8,.builtin "abs"⟩::⟨PySem.PyData.keyHash P t28,.str t28 9,.builtin "all"⟩::⟨PySem.PyData.keyHash P t29,.str t29 10,.builtin "any"⟩::⟨PySem.PyData.keyHash P t30,.str t30 11,.builtin "ascii"⟩::⟨PySem.PyData.keyHash P t31,.str t31 12,.builtin "bin"⟩::⟨PySem.PyData.keyHash P t32,.str t32 13,.builtin "breakpoint"⟩::⟨PySem.PyData.keyHash P t33,.str t33 14,.builtin "callable"⟩::⟨PySem.PyData.keyHash P t34,.str t34 15,.builtin "chr"⟩::⟨PySem.PyData.keyHash P t35,.str t35 16,.builtin "compile"⟩::⟨PySem.PyData.keyHash P t36,.str t36 17,.builtin "delattr"⟩::⟨PySem.PyData.keyHash P t37,.str t37 18,.builtin "dir"⟩::⟨PySem.PyData.keyHash P t38,.str t38 19,.builtin "divmod"⟩::⟨PySem.PyData.keyHash P t39,.str t39 20,.builtin "eval"⟩::⟨PySem.PyData.keyHash P t40,.str t40 21,.builtin "exec"⟩::⟨PySem.PyData.keyHash P t41,.str t41 22,.builtin "format"⟩::⟨PySem.PyData.keyHash P t42,.str t42 23,.builtin "getattr"⟩::⟨PySem.PyData.keyHash P t43,.str t43 24,.builtin "globals"⟩::⟨PySem.PyData.keyHash P t44,.str t44 25,.builtin "hasattr"⟩::⟨PySem.PyData.keyHash P t45,.str t45 26,.builtin "hash"⟩::⟨PySem.PyData.keyHash P t46,.str t46 27,.builtin "hex"⟩::⟨PySem.PyData.keyHash P t47,.str t47 28,.builtin "id"⟩::⟨PySem.PyData.keyHash P t48,.str t48 29,.builtin "input"⟩::⟨PySem.PyData.keyHash P s_isinstance,.str s_isinstance 30,.builtin "isinstance"⟩::⟨PySem.PyData.keyHash P t49,.str t49 31,.builtin "issubclass"⟩::⟨PySem.PyData.keyHash P t50,.str t50 32,.builtin "iter"⟩::⟨PySem.PyData.keyHash P t51,.str t51 33,.builtin "aiter"⟩::⟨PySem.PyData.keyHash P s_len,.str s_len 34,.builtin "len"⟩::⟨PySem.PyData.keyHash P t52,.str t52 35,.builtin "locals"⟩::⟨PySem.PyData.keyHash P s_max,.str s_max 36,.builtin "max"⟩::⟨PySem.PyData.keyHash P s_min,.str s_min 37,.builtin "min"⟩::⟨PySem.PyData.keyHash P s_next,.str s_next 38,.builtin "next"⟩::⟨PySem.PyData.keyHash P t53,.str t53 39,.builtin "anext"⟩::⟨PySem.PyData.keyHash P t54,.str t54 40,.builtin "oct"⟩::⟨PySem.PyData.keyHash P t55,.str t55 41,.builtin "ord"⟩::⟨PySem.PyData.keyHash P t56,.str t56 42,.builtin "pow"⟩::⟨PySem.PyData.keyHash P t57,.str t57 43,.builtin "print"⟩::⟨PySem.PyData.keyHash P t58,.str t58 44,.builtin "repr"⟩::⟨PySem.PyData.keyHash P t59,.str t59 45,.builtin "round"⟩::⟨PySem.PyData.keyHash P t60,.str t60 46,.builtin "setattr"⟩::⟨PySem.PyData.keyHash P t61,.str t61 47,.builtin "sorted"⟩::⟨PySem.PyData.keyHash P t62,.str t62 48,.builtin "sum"⟩::⟨PySem.PyData.keyHash P t63,.str t63 49,.builtin "vars"⟩::⟨PySem.PyData.keyHash P t64,.str t64 50,.none⟩::⟨PySem.PyData.keyHash P t65,.str t65 51,.ellipsis⟩::⟨PySem.PyData.keyHash P t66,.str t66 52,.notImplemented⟩::⟨PySem.PyData.keyHash P t67,.str t67 53,.bool false⟩::⟨PySem.PyData.keyHash P t68,.str t68 54,.bool true⟩::⟨PySem.PyData.keyHash P t69,.str t69 55,.type "bool"⟩::⟨PySem.PyData.keyHash P t70,.str t70 56,.type "memoryview"⟩::⟨PySem.PyData.keyHash P t71,.str t71 57,.type "bytearray"⟩::⟨PySem.PyData.keyHash P t72,.str t72 58,.type "bytes"⟩::⟨PySem.PyData.keyHash P t73,.str t73 59,.type "classmethod"⟩::⟨PySem.PyData.keyHash P t74,.str t74 60,.type "complex"⟩::⟨PySem.PyData.keyHash P t75,.str t75 61,.type "dict"⟩::⟨PySem.PyData.keyHash P t76,.str t76 62,.type "enumerate"⟩::⟨PySem.PyData.keyHash P t77,.str t77 63,.type "filter"⟩::⟨PySem.PyData.keyHash P t78,.str t78 64,.type "float"⟩::⟨PySem.PyData.keyHash P t79,.str t79 65,.type "frozenset"⟩::⟨PySem.PyData.keyHash P t80,.str t80 66,.type "property"⟩::⟨PySem.PyData.keyHash P s_int,.str s_int 67,.type "int"⟩::⟨PySem.PyData.keyHash P s_list,.str s_list 68,.type "list"⟩::⟨PySem.PyData.keyHash P t81,.str t81 69,.type "map"⟩::⟨PySem.PyData.keyHash P t82,.str t82 70,.type "object"⟩::⟨PySem.PyData.keyHash P s_range,.str s_range 71,.type "range"⟩::⟨PySem.PyData.keyHash P t83,.str t83 72,.type "reversed"⟩::⟨PySem.PyData.keyHash P t84,.str t84 73,.type "set"⟩::⟨PySem.PyData.keyHash P t85,.str t85 74,.type "slice"⟩::⟨PySem.PyData.keyHash P t86,.str t86 75,.type "staticmethod"⟩::⟨PySem.PyData.keyHash P s_str,.str s_str 76,.type "str"⟩::⟨PySem.PyData.keyHash P t87,.str t87 77,.type "super"⟩::⟨PySem.PyData.keyHash P s_tuple,.str s_tuple 78,.type "tuple"⟩::⟨PySem.PyData.keyHash P t88,.str t88 79,.type "type"⟩::⟨PySem.PyData.keyHash P t89,.str t89 80,.type "zip"⟩::⟨PySem.PyData.keyHash P t90,.str t90 81,.bool true⟩::⟨PySem.PyData.keyHash P t91,.str t91 82,.type "BaseException"⟩::⟨PySem.PyData.keyHash P t92,.str t92 83,.type "BaseExceptionGroup"⟩::⟨PySem.PyData.keyHash P s_Exception,.str s_Exception 84,.type "Exception"⟩::⟨PySem.PyData.keyHash P t93,.str t93 85,.type "GeneratorExit"⟩::⟨PySem.PyData.keyHash P t94,.str t94 86,.type "KeyboardInterrupt"⟩::⟨PySem.PyData.keyHash P t95,.str t95 87,.type "SystemExit"⟩::⟨PySem.PyData.keyHash P t96,.str t96 88,.type "ArithmeticError"⟩::⟨PySem.PyData.keyHash P t97,.str t97 89,.type "AssertionError"⟩::⟨PySem.PyData.keyHash P t98,.str t98 90,.type "AttributeError"⟩::⟨PySem.PyData.keyHash P t99,.str t99 91,.type "BufferError"⟩::⟨PySem.PyData.keyHash P t100,.str t100 92,.type "EOFError"⟩::⟨PySem.PyData.keyHash P t101,.str t101 93,.type "ImportError"⟩::⟨PySem.PyData.keyHash P t102,.str t102 94,.type "LookupError"⟩::⟨PySem.PyData.keyHash P t103,.str t103 95,.type "MemoryError"⟩::⟨PySem.PyData.keyHash P t104,.str t104 96,.type "NameError"⟩::⟨PySem.PyData.keyHash P t105,.str t105 97,.type "OSError"⟩::⟨PySem.PyData.keyHash P t106,.str t106 98,.type "ReferenceError"⟩::⟨PySem.PyData.keyHash P t107,.str t107 99,.type "RuntimeError"⟩::⟨PySem.PyData.keyHash P t108,.str t108 100,.type "StopAsyncIteration"⟩::⟨PySem.PyData.keyHash P t109,.str t109 101,.type "StopIteration"⟩::⟨PySem.PyData.keyHash P t110,.str t110 102,.type "SyntaxError"⟩::⟨PySem.PyData.keyHash P t111,.str t111 103,.type "SystemError"⟩::⟨PySem.PyData.keyHash P t112,.str t112 104,.type "TypeError"⟩::⟨PySem.PyData.keyHash P t113,.str t113 105,.type "ValueError"⟩::⟨PySem.PyData.keyHash P t114,.str t114 106,.type "Warning"⟩::⟨PySem.PyData.keyHash P t115,.str t115 107,.type "FloatingPointError"⟩::⟨PySem.PyData.keyHash P t116,.str t116 108,.type "OverflowError"⟩::⟨PySem.PyData.keyHash P t117,.str t117 109,.type "ZeroDivisionError"⟩::⟨PySem.PyData.keyHash P t118,.str t118 110,.type "BytesWarning"⟩::⟨PySem.PyData.keyHash P t119,.str t119 111,.type "DeprecationWarning"⟩::⟨PySem.PyData.keyHash P t120,.str t120 112,.type "EncodingWarning"⟩::⟨PySem.PyData.keyHash P t121,.str t121 113,.type "FutureWarning"⟩::⟨PySem.PyData.keyHash P t122,.str t122 114,.type "ImportWarning"⟩::⟨PySem.PyData.keyHash P t123,.str t123 115,.type "PendingDeprecationWarning"⟩::⟨PySem.PyData.keyHash P t124,.str t124 116,.type "ResourceWarning"⟩::⟨PySem.PyData.keyHash P t125,.str t125 117,.type "RuntimeWarning"⟩::⟨PySem.PyData.keyHash P t126,.str t126 118,.type "SyntaxWarning"⟩::⟨PySem.PyData.keyHash P t127,.str t127 119,.type "UnicodeWarning"⟩::⟨PySem.PyData.keyHash P t128,.str t128 120,.type "UserWarning"⟩::⟨PySem.PyData.keyHash P t129,.str t129 121,.type "BlockingIOError"⟩::⟨PySem.PyData.keyHash P t130,.str t130 122,.type "ChildProcessError"⟩::⟨PySem.PyData.keyHash P t131,.str t131 123,.type "ConnectionError"⟩::⟨PySem.PyData.keyHash P t132,.str t132 124,.type "FileExistsError"⟩::⟨PySem.PyData.keyHash P t133,.str t133 125,.type "FileNotFoundError"⟩::⟨PySem.PyData.keyHash P t134,.str t134 126,.type "InterruptedError"⟩::⟨PySem.PyData.keyHash P t135,.str t135 127,.type "IsADirectoryError"⟩::⟨PySem.PyData.keyHash P t136,.str t136 128,.type "NotADirectoryError"⟩::⟨PySem.PyData.keyHash P t137,.str t137 129,.type "PermissionError"⟩::⟨PySem.PyData.keyHash P t138,.str t138 130,.type "ProcessLookupError"⟩::⟨PySem.PyData.keyHash P t139,.str t139 131,.type "TimeoutError"⟩::⟨PySem.PyData.keyHash P t140,.str t140 132,.type "IndentationError"⟩::⟨PySem.PyData.keyHash P t141,.str t141 133,.type "_IncompleteInputError"⟩::⟨PySem.PyData.keyHash P t142,.str t142 134,.type "IndexError"⟩::⟨PySem.PyData.keyHash P t143,.str t143 135,.type "KeyError"⟩::⟨PySem.PyData.keyHash P t144,.str t144 136,.type "ModuleNotFoundError"⟩::⟨PySem.PyData.keyHash P t145,.str t145 137,.type "NotImplementedError"⟩::⟨PySem.PyData.keyHash P t146,.str t146 138,.type "PythonFinalizationError"⟩::⟨PySem.PyData.keyHash P t147,.str t147 139,.type "RecursionError"⟩::⟨PySem.PyData.keyHash P t148,.str t148 140,.type "UnboundLocalError"⟩::⟨PySem.PyData.keyHash P t149,.str t149 141,.type "UnicodeError"⟩::⟨PySem.PyData.keyHash P t150,.str t150 142,.type "BrokenPipeError"⟩::⟨PySem.PyData.keyHash P t151,.str t151 143,.type "ConnectionAbortedError"⟩::⟨PySem.PyData.keyHash P t152,.str t152 144,.type "ConnectionRefusedError"⟩::⟨PySem.PyData.keyHash P t153,.str t153 145,.type "ConnectionResetError"⟩::⟨PySem.PyData.keyHash P t154,.str t154 146,.type "TabError"⟩::⟨PySem.PyData.keyHash P t155,.str t155 147,.type "UnicodeDecodeError"⟩::⟨PySem.PyData.keyHash P t156,.str t156 148,.type "UnicodeEncodeError"⟩::⟨PySem.PyData.keyHash P t157,.str t157 149,.type "UnicodeTranslateError"⟩::⟨PySem.PyData.keyHash P t158,.str t158 150,.type "ExceptionGroup"⟩::⟨PySem.PyData.keyHash P t159,.str t159 151,.type "OSError"⟩::⟨PySem.PyData.keyHash P t160,.str t160 152,.type "OSError"⟩::⟨PySem.PyData.keyHash P t161,.str t161 153,.builtin "open"⟩::⟨PySem.PyData.keyHash P t162,.str t162 154,.builtin "builtins.quit#opaque"⟩::⟨PySem.PyData.keyHash P t163,.str t163 155,.builtin "builtins.exit#opaque"⟩::⟨PySem.PyData.keyHash P t164,.str t164 156,.builtin "builtins.copyright#opaque"⟩::⟨PySem.PyData.keyHash P t165,.str t165 157,.builtin "builtins.credits#opaque"⟩::⟨PySem.PyData.keyHash P t166,.str t166 158,.builtin "builtins.license#opaque"⟩::⟨PySem.PyData.keyHash P t167,.str t167 159,.builtin "builtins.help#opaque"⟩::[])⟩ 159,⟨[]⟩⟩
noncomputable def z1 (P : Params) : Obj := ⟨.type "dict",none,.dict ⟨[⟨PySem.PyData.keyHash P t21,.str t21 162,.ref 4⟩,⟨PySem.PyData.keyHash P t168,.str t168 163,.ref 5⟩]⟩ 2,⟨[]⟩⟩
noncomputable def z2 (P : Params) : Obj := ⟨.none,none,.dict ⟨[⟨PySem.PyData.keyHash P t169,.str t169 223,.int 39 0⟩,⟨PySem.PyData.keyHash P t170,.str t170 224,.int 1 0⟩]⟩ 2,⟨[]⟩⟩
noncomputable def z3 (P : Params) : Obj := ⟨.type "dict",none,.dict ⟨⟨PySem.PyData.keyHash P h_1,.str h_1 165,.str s_law_pq0612_01 1379⟩::x3 P⟩ 73,⟨[]⟩⟩
noncomputable def z4 (P : Params) : Obj := ⟨.type "module",some 0,.plain,⟨[]⟩⟩
noncomputable def z5 (P : Params) : Obj := ⟨.type "module",some 3,.plain,⟨[]⟩⟩
noncomputable def z6 (P : Params) : Obj := ⟨.type "dict",none,.dict ⟨[]⟩ 0,⟨[]⟩⟩
noncomputable def z7 (P : Params) : Obj := k1
noncomputable def z8 (P : Params) : Obj := k2
noncomputable def z9 (P : Params) : Obj := k3 t175 176 177 178 1 7 175 8 179 180
noncomputable def z10 (P : Params) : Obj := k4 9 3 t168 164
noncomputable def z11 (P : Params) : Obj := k1
noncomputable def z12 (P : Params) : Obj := ⟨.none,none,.fields ⟨x12⟩,⟨[]⟩⟩
noncomputable def z13 (P : Params) : Obj := k3 t175 182 183 184 1 11 181 12 185 186
noncomputable def z14 (P : Params) : Obj := k4 13 3 t168 164
noncomputable def z15 (P : Params) : Obj := k1
noncomputable def z16 (P : Params) : Obj := k2
noncomputable def z17 (P : Params) : Obj := k5 s_k 190
noncomputable def z18 (P : Params) : Obj := k1
noncomputable def z19 (P : Params) : Obj := k6 h_0 h_0 p_x_wall b_x_wall e_x_wall
noncomputable def z20 (P : Params) : Obj := k7 h_0 187 h_0 188 189 1 1 15 16 17 18 19 191 192
noncomputable def z21 (P : Params) : Obj := k8 h_0 h_0 p_x_wall b_x_wall e_x_wall t168 164 20
noncomputable def z22 (P : Params) : Obj := ⟨.type "tuple",none,.seq ⟨[.type "Exception"]⟩ 0,⟨[]⟩⟩
noncomputable def z23 (P : Params) : Obj := k9
noncomputable def z24 (P : Params) : Obj := ⟨.type "dict",none,.dict ⟨[⟨PySem.PyData.keyHash P t176,.str t176 203,.str t1 194⟩,⟨PySem.PyData.keyHash P t177,.str t177 205,.str s_LazyError 204⟩,⟨PySem.PyData.keyHash P t178,.str t178 207,.int 5 206⟩,⟨PySem.PyData.keyHash P h_2,.str h_2 216,.ref 36⟩,⟨PySem.PyData.keyHash P t179,.str t179 219,.ref 37⟩]⟩ 5,⟨[]⟩⟩
noncomputable def z25 (P : Params) : Obj := k1
noncomputable def z26 (P : Params) : Obj := ⟨.none,none,.fields ⟨[.int 7 0,.int 4 0,.ref 35]⟩,⟨[]⟩⟩
noncomputable def z27 (P : Params) : Obj := k3 s_LazyError 198 199 200 5 25 181 26 201 202
noncomputable def z28 (P : Params) : Obj := k4 27 24 t1 194
noncomputable def z29 (P : Params) : Obj := k10
noncomputable def z30 (P : Params) : Obj := k1
noncomputable def z31 (P : Params) : Obj := k2
noncomputable def z32 (P : Params) : Obj := k11 s_self 211 s_message 212 s_place 213
noncomputable def z33 (P : Params) : Obj := k1
noncomputable def z34 (P : Params) : Obj := k6 h_2 t180 p_LazyErrord_initd b_LazyErrord_initd e_LazyErrord_initd
noncomputable def z35 (P : Params) : Obj := k7 h_2 208 t180 209 210 7 3 30 31 32 33 34 214 215
noncomputable def z36 (P : Params) : Obj := k12 h_2 t180 p_LazyErrord_initd b_LazyErrord_initd e_LazyErrord_initd 29 t1 194 35
noncomputable def z37 (P : Params) : Obj := k13 s_message 217 s_place 218
noncomputable def z38 (P : Params) : Obj := k14 P 203 t1 194 207 5 206 216 36 t179 219 37 t181 221 40 222 3
noncomputable def z39 (P : Params) : Obj := ⟨.type "type",none,.cls ⟨s_LazyError,[.type "Exception"],[.ref 39,.type "Exception",.type "BaseException",.type "object"],38,s_LazyError,true,[],[.ref 52],false,none,false⟩,⟨[some (.ref 22),none,some (.str s_LazyError 196),some (.str s_LazyError 204),some (.builtin "Exception.__new__"),some (.bool true)]⟩⟩
noncomputable def z40 (P : Params) : Obj := k15 220 39
noncomputable def z41 (P : Params) : Obj := k16 39
noncomputable def z42 (P : Params) : Obj := k17 39
noncomputable def z43 (P : Params) : Obj := k18 39
noncomputable def z44 (P : Params) : Obj := k9
noncomputable def z45 (P : Params) : Obj := ⟨.type "dict",none,.dict ⟨[⟨PySem.PyData.keyHash P t176,.str t176 234,.str t1 194⟩,⟨PySem.PyData.keyHash P t177,.str t177 236,.str s_ReadError 235⟩,⟨PySem.PyData.keyHash P t178,.str t178 238,.int 11 237⟩,⟨PySem.PyData.keyHash P t179,.str t179 239,.ref 50⟩]⟩ 4,⟨[]⟩⟩
noncomputable def z46 (P : Params) : Obj := k1
noncomputable def z47 (P : Params) : Obj := k2
noncomputable def z48 (P : Params) : Obj := k3 s_ReadError 229 230 231 11 46 181 47 232 233
noncomputable def z49 (P : Params) : Obj := k4 48 45 t1 194
noncomputable def z50 (P : Params) : Obj := k1
noncomputable def z51 (P : Params) : Obj := ⟨.type "dict",none,.dict ⟨[⟨PySem.PyData.keyHash P t176,.str t176 234,.str t1 194⟩,⟨PySem.PyData.keyHash P t178,.str t178 238,.int 11 237⟩,⟨PySem.PyData.keyHash P t179,.str t179 239,.ref 50⟩,⟨PySem.PyData.keyHash P t22,.str t22 240,.none⟩]⟩ 2,⟨[]⟩⟩
noncomputable def z52 (P : Params) : Obj := ⟨.type "type",none,.cls ⟨s_ReadError,[.ref 39],[.ref 52,.ref 39,.type "Exception",.type "BaseException",.type "object"],51,s_ReadError,true,[],[],false,none,false⟩,⟨[some (.ref 43),none,some (.str s_ReadError 227),some (.str s_ReadError 235),some (.builtin "Exception.__new__"),some (.bool true)]⟩⟩
noncomputable def z53 (P : Params) : Obj := k16 52
noncomputable def z54 (P : Params) : Obj := k17 52
noncomputable def z55 (P : Params) : Obj := k1
noncomputable def z56 (P : Params) : Obj := k2
noncomputable def z57 (P : Params) : Obj := k5 s_word 250
noncomputable def z58 (P : Params) : Obj := k1
noncomputable def z59 (P : Params) : Obj := k6 s_is_virtual s_is_virtual p_is_virtual b_is_virtual e_is_virtual
noncomputable def z60 (P : Params) : Obj := k7 s_is_virtual 247 s_is_virtual 248 249 15 1 55 56 57 58 59 251 252
noncomputable def z61 (P : Params) : Obj := k8 s_is_virtual s_is_virtual p_is_virtual b_is_virtual e_is_virtual t2 243 60
noncomputable def z62 (P : Params) : Obj := k19 s_in 256 s_of 257 s_then 258 s_else 259
noncomputable def z63 (P : Params) : Obj := k19 h_3 261 h_4 262 h_5 263 h_6 264
noncomputable def z64 (P : Params) : Obj := k1
noncomputable def z65 (P : Params) : Obj := k2
noncomputable def z66 (P : Params) : Obj := k5 s_word 269
noncomputable def z67 (P : Params) : Obj := k1
noncomputable def z68 (P : Params) : Obj := k6 s_full_name s_full_name p_full_name b_full_name e_full_name
noncomputable def z69 (P : Params) : Obj := k7 s_full_name 266 s_full_name 267 268 20 1 64 65 66 67 68 270 271
noncomputable def z70 (P : Params) : Obj := k8 s_full_name s_full_name p_full_name b_full_name e_full_name t3 254 69
noncomputable def z71 (P : Params) : Obj := k1
noncomputable def z72 (P : Params) : Obj := k9
noncomputable def z73 (P : Params) : Obj := ⟨.type "dict",none,.dict ⟨[⟨PySem.PyData.keyHash P t176,.str t176 280,.str t3 254⟩,⟨PySem.PyData.keyHash P t177,.str t177 282,.str s_Cursor 281⟩,⟨PySem.PyData.keyHash P t178,.str t178 284,.int 22 283⟩,⟨PySem.PyData.keyHash P h_2,.str h_2 292,.ref 84⟩,⟨PySem.PyData.keyHash P s_peek,.str s_peek 299,.ref 91⟩,⟨PySem.PyData.keyHash P s_next,.str s_next 306,.ref 98⟩,⟨PySem.PyData.keyHash P s_place,.str s_place 313,.ref 105⟩,⟨PySem.PyData.keyHash P s_behind,.str s_behind 320,.ref 112⟩,⟨PySem.PyData.keyHash P s_is_joined,.str s_is_joined 327,.ref 119⟩,⟨PySem.PyData.keyHash P s_is_at,.str s_is_at 337,.ref 127⟩,⟨PySem.PyData.keyHash P s_take,.str s_take 346,.ref 135⟩,⟨PySem.PyData.keyHash P s_want,.str s_want 355,.ref 143⟩,⟨PySem.PyData.keyHash P s_refuse,.str s_refuse 365,.ref 150⟩,⟨PySem.PyData.keyHash P s_block,.str s_block 375,.ref 157⟩,⟨PySem.PyData.keyHash P s_is_end_here,.str s_is_end_here 384,.ref 164⟩,⟨PySem.PyData.keyHash P s_closes,.str s_closes 393,.ref 171⟩,⟨PySem.PyData.keyHash P t179,.str t179 396,.ref 172⟩]⟩ 17,⟨[]⟩⟩
noncomputable def z74 (P : Params) : Obj := k1
noncomputable def z75 (P : Params) : Obj := ⟨.none,none,.fields ⟨[.int 24 0,.int 4 0,.ref 83,.int 28 0,.int 4 0,.ref 90,.int 31 0,.int 4 0,.ref 97,.int 35 0,.int 4 0,.ref 104,.int 38 0,.int 4 0,.ref 111,.int 41 0,.int 4 0,.ref 118,.int 44 0,.int 4 0,.ref 126,.int 48 0,.int 4 0,.ref 134,.int 54 0,.int 4 0,.ref 142,.int 59 0,.int 4 0,.ref 149,.int 64 0,.int 4 0,.ref 156,.int 77 0,.int 4 0,.ref 163,.int 83 0,.int 4 0,.ref 170]⟩,⟨[]⟩⟩
noncomputable def z76 (P : Params) : Obj := k3 s_Cursor 275 276 277 22 74 181 75 278 279
noncomputable def z77 (P : Params) : Obj := k4 76 73 t3 254
noncomputable def z78 (P : Params) : Obj := k1
noncomputable def z79 (P : Params) : Obj := k2
noncomputable def z80 (P : Params) : Obj := k13 s_self 288 s_layout 289
noncomputable def z81 (P : Params) : Obj := k1
noncomputable def z82 (P : Params) : Obj := k6 h_2 t182 p_Cursord_initd b_Cursord_initd e_Cursord_initd
noncomputable def z83 (P : Params) : Obj := k7 h_2 285 t182 286 287 24 2 78 79 80 81 82 290 291
noncomputable def z84 (P : Params) : Obj := k8 h_2 t182 p_Cursord_initd b_Cursord_initd e_Cursord_initd t3 254 83
noncomputable def z85 (P : Params) : Obj := k1
noncomputable def z86 (P : Params) : Obj := k2
noncomputable def z87 (P : Params) : Obj := k5 s_self 296
noncomputable def z88 (P : Params) : Obj := k1
noncomputable def z89 (P : Params) : Obj := k6 s_peek t183 p_Cursor_peek b_Cursor_peek e_Cursor_peek
noncomputable def z90 (P : Params) : Obj := k7 s_peek 293 t183 294 295 28 1 85 86 87 88 89 297 298
noncomputable def z91 (P : Params) : Obj := k8 s_peek t183 p_Cursor_peek b_Cursor_peek e_Cursor_peek t3 254 90
noncomputable def z92 (P : Params) : Obj := k1
noncomputable def z93 (P : Params) : Obj := k2
noncomputable def z94 (P : Params) : Obj := k5 s_self 303
noncomputable def z95 (P : Params) : Obj := k1
noncomputable def z96 (P : Params) : Obj := k6 s_next t184 p_Cursor_next b_Cursor_next e_Cursor_peek
noncomputable def z97 (P : Params) : Obj := k7 s_next 300 t184 301 302 31 1 92 93 94 95 96 304 305
noncomputable def z98 (P : Params) : Obj := k8 s_next t184 p_Cursor_next b_Cursor_next e_Cursor_peek t3 254 97
noncomputable def z99 (P : Params) : Obj := k1
noncomputable def z100 (P : Params) : Obj := k2
noncomputable def z101 (P : Params) : Obj := k5 s_self 310
noncomputable def z102 (P : Params) : Obj := k1
noncomputable def z103 (P : Params) : Obj := k6 s_place t185 p_Cursor_place b_Cursor_place e_Cursor_peek
noncomputable def z104 (P : Params) : Obj := k7 s_place 307 t185 308 309 35 1 99 100 101 102 103 311 312
noncomputable def z105 (P : Params) : Obj := k8 s_place t185 p_Cursor_place b_Cursor_place e_Cursor_peek t3 254 104
noncomputable def z106 (P : Params) : Obj := k1
noncomputable def z107 (P : Params) : Obj := k2
noncomputable def z108 (P : Params) : Obj := k5 s_self 317
noncomputable def z109 (P : Params) : Obj := k1
noncomputable def z110 (P : Params) : Obj := k6 s_behind t186 p_Cursor_behind b_Cursor_behind e_Cursor_behind
noncomputable def z111 (P : Params) : Obj := k7 s_behind 314 t186 315 316 38 1 106 107 108 109 110 318 319
noncomputable def z112 (P : Params) : Obj := k8 s_behind t186 p_Cursor_behind b_Cursor_behind e_Cursor_behind t3 254 111
noncomputable def z113 (P : Params) : Obj := k1
noncomputable def z114 (P : Params) : Obj := k2
noncomputable def z115 (P : Params) : Obj := k5 s_self 324
noncomputable def z116 (P : Params) : Obj := k1
noncomputable def z117 (P : Params) : Obj := k6 s_is_joined t187 p_Cursor_is_joined b_Cursor_is_joined e_Cursor_is_joined
noncomputable def z118 (P : Params) : Obj := k7 s_is_joined 321 t187 322 323 41 1 113 114 115 116 117 325 326
noncomputable def z119 (P : Params) : Obj := k8 s_is_joined t187 p_Cursor_is_joined b_Cursor_is_joined e_Cursor_is_joined t3 254 118
noncomputable def z120 (P : Params) : Obj := k10
noncomputable def z121 (P : Params) : Obj := k1
noncomputable def z122 (P : Params) : Obj := k2
noncomputable def z123 (P : Params) : Obj := k19 s_self 331 s_kind 332 s_text 333 s_word 334
noncomputable def z124 (P : Params) : Obj := k1
noncomputable def z125 (P : Params) : Obj := k6 s_is_at t188 p_Cursor_is_at b_Cursor_is_at e_Cursor_is_at
noncomputable def z126 (P : Params) : Obj := k7 s_is_at 328 t188 329 330 44 3 121 122 123 124 125 335 336
noncomputable def z127 (P : Params) : Obj := k12 s_is_at t188 p_Cursor_is_at b_Cursor_is_at e_Cursor_is_at 120 t3 254 126
noncomputable def z128 (P : Params) : Obj := k10
noncomputable def z129 (P : Params) : Obj := k1
noncomputable def z130 (P : Params) : Obj := k2
noncomputable def z131 (P : Params) : Obj := k11 s_self 341 s_kind 342 s_text 343
noncomputable def z132 (P : Params) : Obj := k1
noncomputable def z133 (P : Params) : Obj := k6 s_take t189 p_Cursor_take b_Cursor_take e_Cursor_take
noncomputable def z134 (P : Params) : Obj := k7 s_take 338 t189 339 340 48 3 129 130 131 132 133 344 345
noncomputable def z135 (P : Params) : Obj := k12 s_take t189 p_Cursor_take b_Cursor_take e_Cursor_take 128 t3 254 134
noncomputable def z136 (P : Params) : Obj := k10
noncomputable def z137 (P : Params) : Obj := k1
noncomputable def z138 (P : Params) : Obj := k2
noncomputable def z139 (P : Params) : Obj := k11 s_self 350 s_kind 351 s_text 352
noncomputable def z140 (P : Params) : Obj := k1
noncomputable def z141 (P : Params) : Obj := k6 s_want t190 p_Cursor_want b_Cursor_want e_Cursor_take
noncomputable def z142 (P : Params) : Obj := k7 s_want 347 t190 348 349 54 3 137 138 139 140 141 353 354
noncomputable def z143 (P : Params) : Obj := k12 s_want t190 p_Cursor_want b_Cursor_want e_Cursor_take 136 t3 254 142
noncomputable def z144 (P : Params) : Obj := k1
noncomputable def z145 (P : Params) : Obj := k2
noncomputable def z146 (P : Params) : Obj := k19 s_self 359 s_message 360 s_word 361 s_told 362
noncomputable def z147 (P : Params) : Obj := k1
noncomputable def z148 (P : Params) : Obj := k6 s_refuse t191 p_Cursor_refuse b_Cursor_refuse e_Cursor_refuse
noncomputable def z149 (P : Params) : Obj := k7 s_refuse 356 t191 357 358 59 2 144 145 146 147 148 363 364
noncomputable def z150 (P : Params) : Obj := k8 s_refuse t191 p_Cursor_refuse b_Cursor_refuse e_Cursor_refuse t3 254 149
noncomputable def z151 (P : Params) : Obj := k1
noncomputable def z152 (P : Params) : Obj := k2
noncomputable def z153 (P : Params) : Obj := k19 s_self 369 s_read_one 370 s_is_laid 371 s_found 372
noncomputable def z154 (P : Params) : Obj := k1
noncomputable def z155 (P : Params) : Obj := k6 s_block t192 p_Cursor_block b_Cursor_block e_Cursor_block
noncomputable def z156 (P : Params) : Obj := k7 s_block 366 t192 367 368 64 2 151 152 153 154 155 373 374
noncomputable def z157 (P : Params) : Obj := k8 s_block t192 p_Cursor_block b_Cursor_block e_Cursor_block t3 254 156
noncomputable def z158 (P : Params) : Obj := k1
noncomputable def z159 (P : Params) : Obj := k2
noncomputable def z160 (P : Params) : Obj := k11 s_self 379 s_is_laid 380 s_word 381
noncomputable def z161 (P : Params) : Obj := k1
noncomputable def z162 (P : Params) : Obj := k6 s_is_end_here t193 p_Cursor_is_end_here b_Cursor_is_end_here e_Cursor_is_end_here
noncomputable def z163 (P : Params) : Obj := k7 s_is_end_here 376 t193 377 378 77 2 158 159 160 161 162 382 383
noncomputable def z164 (P : Params) : Obj := k8 s_is_end_here t193 p_Cursor_is_end_here b_Cursor_is_end_here e_Cursor_is_end_here t3 254 163
noncomputable def z165 (P : Params) : Obj := k1
noncomputable def z166 (P : Params) : Obj := k2
noncomputable def z167 (P : Params) : Obj := k11 s_self 388 s_is_laid 389 s_word 390
noncomputable def z168 (P : Params) : Obj := k1
noncomputable def z169 (P : Params) : Obj := k6 s_closes t194 p_Cursor_closes b_Cursor_closes e_Cursor_closes
noncomputable def z170 (P : Params) : Obj := k7 s_closes 385 t194 386 387 83 2 165 166 167 168 169 391 392
noncomputable def z171 (P : Params) : Obj := k8 s_closes t194 p_Cursor_closes b_Cursor_closes e_Cursor_closes t3 254 170
noncomputable def z172 (P : Params) : Obj := k13 s_last 394 s_layout 395
noncomputable def z173 (P : Params) : Obj := ⟨.type "dict",none,.dict ⟨[⟨PySem.PyData.keyHash P t176,.str t176 280,.str t3 254⟩,⟨PySem.PyData.keyHash P t178,.str t178 284,.int 22 283⟩,⟨PySem.PyData.keyHash P h_2,.str h_2 292,.ref 84⟩,⟨PySem.PyData.keyHash P s_peek,.str s_peek 299,.ref 91⟩,⟨PySem.PyData.keyHash P s_next,.str s_next 306,.ref 98⟩,⟨PySem.PyData.keyHash P s_place,.str s_place 313,.ref 105⟩,⟨PySem.PyData.keyHash P s_behind,.str s_behind 320,.ref 112⟩,⟨PySem.PyData.keyHash P s_is_joined,.str s_is_joined 327,.ref 119⟩,⟨PySem.PyData.keyHash P s_is_at,.str s_is_at 337,.ref 127⟩,⟨PySem.PyData.keyHash P s_take,.str s_take 346,.ref 135⟩,⟨PySem.PyData.keyHash P s_want,.str s_want 355,.ref 143⟩,⟨PySem.PyData.keyHash P s_refuse,.str s_refuse 365,.ref 150⟩,⟨PySem.PyData.keyHash P s_block,.str s_block 375,.ref 157⟩,⟨PySem.PyData.keyHash P s_is_end_here,.str s_is_end_here 384,.ref 164⟩,⟨PySem.PyData.keyHash P s_closes,.str s_closes 393,.ref 171⟩,⟨PySem.PyData.keyHash P t179,.str t179 396,.ref 172⟩,⟨PySem.PyData.keyHash P t195,.str t195 398,.ref 175⟩,⟨PySem.PyData.keyHash P t181,.str t181 400,.ref 176⟩,⟨PySem.PyData.keyHash P t22,.str t22 401,.none⟩]⟩ 4,⟨[]⟩⟩
noncomputable def z174 (P : Params) : Obj := k20 s_Cursor 174 173 273 281
noncomputable def z175 (P : Params) : Obj := k21 397 174
noncomputable def z176 (P : Params) : Obj := k15 399 174
noncomputable def z177 (P : Params) : Obj := k16 174
noncomputable def z178 (P : Params) : Obj := k17 174
noncomputable def z179 (P : Params) : Obj := k1
noncomputable def z180 (P : Params) : Obj := k2
noncomputable def z181 (P : Params) : Obj := k6 s_rows_of s_rows_of p_rows_of b_rows_of e_rows_of
noncomputable def z182 (P : Params) : Obj := k22 s_rows_of 406 407 408 90 1 179 180 181 409 410
noncomputable def z183 (P : Params) : Obj := k8 s_rows_of s_rows_of p_rows_of b_rows_of e_rows_of t8 404 182
noncomputable def z184 (P : Params) : Obj := k1
noncomputable def z185 (P : Params) : Obj := k9
noncomputable def z186 (P : Params) : Obj := k23 P 419 t8 404 421 s_Node 420 423 92 422 431 197 438 204 440 205
noncomputable def z187 (P : Params) : Obj := k1
noncomputable def z188 (P : Params) : Obj := k24 94 196 97 203
noncomputable def z189 (P : Params) : Obj := k3 s_Node 414 415 416 92 187 181 188 417 418
noncomputable def z190 (P : Params) : Obj := k4 189 186 t8 404
noncomputable def z191 (P : Params) : Obj := k1
noncomputable def z192 (P : Params) : Obj := k2
noncomputable def z193 (P : Params) : Obj := k13 s_self 427 s_place 428
noncomputable def z194 (P : Params) : Obj := k1
noncomputable def z195 (P : Params) : Obj := k6 h_2 t196 p_Noded_initd b_Noded_initd e_Noded_initd
noncomputable def z196 (P : Params) : Obj := k7 h_2 424 t196 425 426 94 2 191 192 193 194 195 429 430
noncomputable def z197 (P : Params) : Obj := k8 h_2 t196 p_Noded_initd b_Noded_initd e_Noded_initd t8 404 196
noncomputable def z198 (P : Params) : Obj := k1
noncomputable def z199 (P : Params) : Obj := k2
noncomputable def z200 (P : Params) : Obj := k5 s_self 435
noncomputable def z201 (P : Params) : Obj := k1
noncomputable def z202 (P : Params) : Obj := k6 s_row t197 p_Node_row b_Node_row e_Cursor_peek
noncomputable def z203 (P : Params) : Obj := k7 s_row 432 t197 433 434 97 1 198 199 200 201 202 436 437
noncomputable def z204 (P : Params) : Obj := k8 s_row t197 p_Node_row b_Node_row e_Cursor_peek t8 404 203
noncomputable def z205 (P : Params) : Obj := k5 s_place 439
noncomputable def z206 (P : Params) : Obj := ⟨.type "dict",none,.dict ⟨[⟨PySem.PyData.keyHash P t176,.str t176 419,.str t8 404⟩,⟨PySem.PyData.keyHash P t178,.str t178 423,.int 92 422⟩,⟨PySem.PyData.keyHash P h_2,.str h_2 431,.ref 197⟩,⟨PySem.PyData.keyHash P s_row,.str s_row 438,.ref 204⟩,⟨PySem.PyData.keyHash P t179,.str t179 440,.ref 205⟩,⟨PySem.PyData.keyHash P t195,.str t195 442,.ref 208⟩,⟨PySem.PyData.keyHash P t181,.str t181 444,.ref 209⟩,⟨PySem.PyData.keyHash P t22,.str t22 445,.none⟩]⟩ 4,⟨[]⟩⟩
noncomputable def z207 (P : Params) : Obj := ⟨.type "type",none,.cls ⟨s_Node,[.type "object"],[.ref 207,.type "object"],206,s_Node,true,[],[.ref 236,.ref 263,.ref 290,.ref 317,.ref 344,.ref 371,.ref 398,.ref 425,.ref 452,.ref 479,.ref 506,.ref 533,.ref 560,.ref 587,.ref 614,.ref 641,.ref 668,.ref 695,.ref 722,.ref 749],false,none,false⟩,⟨[none,none,some (.str s_Node 412),some (.str s_Node 420),some (.builtin "object.__new__"),some (.bool true)]⟩⟩
noncomputable def z208 (P : Params) : Obj := k21 441 207
noncomputable def z209 (P : Params) : Obj := k15 443 207
noncomputable def z210 (P : Params) : Obj := k16 207
noncomputable def z211 (P : Params) : Obj := k17 207
noncomputable def z212 (P : Params) : Obj := k18 207
noncomputable def z213 (P : Params) : Obj := k9
noncomputable def z214 (P : Params) : Obj := k23 P 455 t8 404 457 s_Var 456 459 99 458 468 226 475 233 478 234
noncomputable def z215 (P : Params) : Obj := k1
noncomputable def z216 (P : Params) : Obj := k24 101 225 106 232
noncomputable def z217 (P : Params) : Obj := k3 s_Var 450 451 452 99 215 181 216 453 454
noncomputable def z218 (P : Params) : Obj := k4 217 214 t8 404
noncomputable def z219 (P : Params) : Obj := k10
noncomputable def z220 (P : Params) : Obj := k1
noncomputable def z221 (P : Params) : Obj := k2
noncomputable def z222 (P : Params) : Obj := k11 s_self 463 s_name 464 s_place 465
noncomputable def z223 (P : Params) : Obj := k1
noncomputable def z224 (P : Params) : Obj := k6 h_2 t198 p_Vard_initd b_Vard_initd e_Vard_initd
noncomputable def z225 (P : Params) : Obj := k7 h_2 460 t198 461 462 101 3 220 221 222 223 224 466 467
noncomputable def z226 (P : Params) : Obj := k12 h_2 t198 p_Vard_initd b_Vard_initd e_Vard_initd 219 t8 404 225
noncomputable def z227 (P : Params) : Obj := k1
noncomputable def z228 (P : Params) : Obj := k2
noncomputable def z229 (P : Params) : Obj := k5 s_self 472
noncomputable def z230 (P : Params) : Obj := k1
noncomputable def z231 (P : Params) : Obj := k6 s_row t199 p_Var_row b_Var_row e_Cursor_peek
noncomputable def z232 (P : Params) : Obj := k7 s_row 469 t199 470 471 106 1 227 228 229 230 231 473 474
noncomputable def z233 (P : Params) : Obj := k8 s_row t199 p_Var_row b_Var_row e_Cursor_peek t8 404 232
noncomputable def z234 (P : Params) : Obj := k13 s_name 476 s_uses 477
noncomputable def z235 (P : Params) : Obj := k14 P 455 t8 404 459 99 458 468 226 s_row 475 233 t179 478 234 479 2
noncomputable def z236 (P : Params) : Obj := k25 s_Var 236 235 212 448 456
noncomputable def z237 (P : Params) : Obj := k16 236
noncomputable def z238 (P : Params) : Obj := k17 236
noncomputable def z239 (P : Params) : Obj := k18 207
noncomputable def z240 (P : Params) : Obj := k9
noncomputable def z241 (P : Params) : Obj := k23 P 489 t8 404 491 s_Con 490 493 108 492 502 253 509 260 512 261
noncomputable def z242 (P : Params) : Obj := k1
noncomputable def z243 (P : Params) : Obj := k24 110 252 115 259
noncomputable def z244 (P : Params) : Obj := k3 s_Con 484 485 486 108 242 181 243 487 488
noncomputable def z245 (P : Params) : Obj := k4 244 241 t8 404
noncomputable def z246 (P : Params) : Obj := k10
noncomputable def z247 (P : Params) : Obj := k1
noncomputable def z248 (P : Params) : Obj := k2
noncomputable def z249 (P : Params) : Obj := k11 s_self 497 s_name 498 s_place 499
noncomputable def z250 (P : Params) : Obj := k1
noncomputable def z251 (P : Params) : Obj := k6 h_2 t200 p_Cond_initd b_Cond_initd e_Vard_initd
noncomputable def z252 (P : Params) : Obj := k7 h_2 494 t200 495 496 110 3 247 248 249 250 251 500 501
noncomputable def z253 (P : Params) : Obj := k12 h_2 t200 p_Cond_initd b_Cond_initd e_Vard_initd 246 t8 404 252
noncomputable def z254 (P : Params) : Obj := k1
noncomputable def z255 (P : Params) : Obj := k2
noncomputable def z256 (P : Params) : Obj := k5 s_self 506
noncomputable def z257 (P : Params) : Obj := k1
noncomputable def z258 (P : Params) : Obj := k6 s_row t201 p_Con_row b_Con_row e_Cursor_peek
noncomputable def z259 (P : Params) : Obj := k7 s_row 503 t201 504 505 115 1 254 255 256 257 258 507 508
noncomputable def z260 (P : Params) : Obj := k8 s_row t201 p_Con_row b_Con_row e_Cursor_peek t8 404 259
noncomputable def z261 (P : Params) : Obj := k13 s_name 510 s_uses 511
noncomputable def z262 (P : Params) : Obj := k14 P 489 t8 404 493 108 492 502 253 s_row 509 260 t179 512 261 513 2
noncomputable def z263 (P : Params) : Obj := k25 s_Con 263 262 239 482 490
noncomputable def z264 (P : Params) : Obj := k16 263
noncomputable def z265 (P : Params) : Obj := k17 263
noncomputable def z266 (P : Params) : Obj := k18 207
noncomputable def z267 (P : Params) : Obj := k9
noncomputable def z268 (P : Params) : Obj := k23 P 523 t8 404 525 s_Lit 524 527 117 526 537 280 544 287 547 288
noncomputable def z269 (P : Params) : Obj := k1
noncomputable def z270 (P : Params) : Obj := k24 119 279 124 286
noncomputable def z271 (P : Params) : Obj := k3 s_Lit 518 519 520 117 269 181 270 521 522
noncomputable def z272 (P : Params) : Obj := k4 271 268 t8 404
noncomputable def z273 (P : Params) : Obj := k10
noncomputable def z274 (P : Params) : Obj := k1
noncomputable def z275 (P : Params) : Obj := k2
noncomputable def z276 (P : Params) : Obj := k19 s_self 531 s_kind 532 s_value 533 s_place 534
noncomputable def z277 (P : Params) : Obj := k1
noncomputable def z278 (P : Params) : Obj := k6 h_2 t202 p_Litd_initd b_Litd_initd e_Litd_initd
noncomputable def z279 (P : Params) : Obj := k7 h_2 528 t202 529 530 119 4 274 275 276 277 278 535 536
noncomputable def z280 (P : Params) : Obj := k12 h_2 t202 p_Litd_initd b_Litd_initd e_Litd_initd 273 t8 404 279
noncomputable def z281 (P : Params) : Obj := k1
noncomputable def z282 (P : Params) : Obj := k2
noncomputable def z283 (P : Params) : Obj := k5 s_self 541
noncomputable def z284 (P : Params) : Obj := k1
noncomputable def z285 (P : Params) : Obj := k6 s_row t203 p_Lit_row b_Lit_row e_Cursor_peek
noncomputable def z286 (P : Params) : Obj := k7 s_row 538 t203 539 540 124 1 281 282 283 284 285 542 543
noncomputable def z287 (P : Params) : Obj := k8 s_row t203 p_Lit_row b_Lit_row e_Cursor_peek t8 404 286
noncomputable def z288 (P : Params) : Obj := k13 s_kind 545 s_value 546
noncomputable def z289 (P : Params) : Obj := k14 P 523 t8 404 527 117 526 537 280 s_row 544 287 t179 547 288 548 2
noncomputable def z290 (P : Params) : Obj := k25 s_Lit 290 289 266 516 524
noncomputable def z291 (P : Params) : Obj := k16 290
noncomputable def z292 (P : Params) : Obj := k17 290
noncomputable def z293 (P : Params) : Obj := k18 207
noncomputable def z294 (P : Params) : Obj := k9
noncomputable def z295 (P : Params) : Obj := k23 P 558 t8 404 560 s_App 559 562 126 561 572 307 579 314 582 315
noncomputable def z296 (P : Params) : Obj := k1
noncomputable def z297 (P : Params) : Obj := k24 128 306 133 313
noncomputable def z298 (P : Params) : Obj := k3 s_App 553 554 555 126 296 181 297 556 557
noncomputable def z299 (P : Params) : Obj := k4 298 295 t8 404
noncomputable def z300 (P : Params) : Obj := k10
noncomputable def z301 (P : Params) : Obj := k1
noncomputable def z302 (P : Params) : Obj := k2
noncomputable def z303 (P : Params) : Obj := k19 s_self 566 s_fun 567 s_arg 568 s_place 569
noncomputable def z304 (P : Params) : Obj := k1
noncomputable def z305 (P : Params) : Obj := k6 h_2 t204 p_Appd_initd b_Appd_initd e_Appd_initd
noncomputable def z306 (P : Params) : Obj := k7 h_2 563 t204 564 565 128 4 301 302 303 304 305 570 571
noncomputable def z307 (P : Params) : Obj := k12 h_2 t204 p_Appd_initd b_Appd_initd e_Appd_initd 300 t8 404 306
noncomputable def z308 (P : Params) : Obj := k1
noncomputable def z309 (P : Params) : Obj := k2
noncomputable def z310 (P : Params) : Obj := k5 s_self 576
noncomputable def z311 (P : Params) : Obj := k1
noncomputable def z312 (P : Params) : Obj := k6 s_row t205 p_App_row b_App_row e_Cursor_peek
noncomputable def z313 (P : Params) : Obj := k7 s_row 573 t205 574 575 133 1 308 309 310 311 312 577 578
noncomputable def z314 (P : Params) : Obj := k8 s_row t205 p_App_row b_App_row e_Cursor_peek t8 404 313
noncomputable def z315 (P : Params) : Obj := k13 s_arg 580 s_fun 581
noncomputable def z316 (P : Params) : Obj := k14 P 558 t8 404 562 126 561 572 307 s_row 579 314 t179 582 315 583 2
noncomputable def z317 (P : Params) : Obj := k25 s_App 317 316 293 551 559
noncomputable def z318 (P : Params) : Obj := k16 317
noncomputable def z319 (P : Params) : Obj := k17 317
noncomputable def z320 (P : Params) : Obj := k18 207
noncomputable def z321 (P : Params) : Obj := k9
noncomputable def z322 (P : Params) : Obj := k23 P 593 t8 404 595 s_Op 594 597 135 596 607 334 614 341 617 342
noncomputable def z323 (P : Params) : Obj := k1
noncomputable def z324 (P : Params) : Obj := k24 137 333 142 340
noncomputable def z325 (P : Params) : Obj := k3 s_Op 588 589 590 135 323 181 324 591 592
noncomputable def z326 (P : Params) : Obj := k4 325 322 t8 404
noncomputable def z327 (P : Params) : Obj := k10
noncomputable def z328 (P : Params) : Obj := k1
noncomputable def z329 (P : Params) : Obj := k2
noncomputable def z330 (P : Params) : Obj := k19 s_self 601 s_name 602 s_is_con 603 s_place 604
noncomputable def z331 (P : Params) : Obj := k1
noncomputable def z332 (P : Params) : Obj := k6 h_2 t206 p_Opd_initd b_Opd_initd e_Opd_initd
noncomputable def z333 (P : Params) : Obj := k7 h_2 598 t206 599 600 137 4 328 329 330 331 332 605 606
noncomputable def z334 (P : Params) : Obj := k12 h_2 t206 p_Opd_initd b_Opd_initd e_Opd_initd 327 t8 404 333
noncomputable def z335 (P : Params) : Obj := k1
noncomputable def z336 (P : Params) : Obj := k2
noncomputable def z337 (P : Params) : Obj := k5 s_self 611
noncomputable def z338 (P : Params) : Obj := k1
noncomputable def z339 (P : Params) : Obj := k6 s_row t207 p_Op_row b_Op_row e_Cursor_peek
noncomputable def z340 (P : Params) : Obj := k7 s_row 608 t207 609 610 142 1 335 336 337 338 339 612 613
noncomputable def z341 (P : Params) : Obj := k8 s_row t207 p_Op_row b_Op_row e_Cursor_peek t8 404 340
noncomputable def z342 (P : Params) : Obj := k13 s_is_con 615 s_name 616
noncomputable def z343 (P : Params) : Obj := k14 P 593 t8 404 597 135 596 607 334 s_row 614 341 t179 617 342 618 2
noncomputable def z344 (P : Params) : Obj := k25 s_Op 344 343 320 586 594
noncomputable def z345 (P : Params) : Obj := k16 344
noncomputable def z346 (P : Params) : Obj := k17 344
noncomputable def z347 (P : Params) : Obj := k18 207
noncomputable def z348 (P : Params) : Obj := k9
noncomputable def z349 (P : Params) : Obj := k23 P 628 t8 404 630 s_Infix 629 632 144 631 641 361 648 368 650 369
noncomputable def z350 (P : Params) : Obj := k1
noncomputable def z351 (P : Params) : Obj := k24 146 360 150 367
noncomputable def z352 (P : Params) : Obj := k3 s_Infix 623 624 625 144 350 181 351 626 627
noncomputable def z353 (P : Params) : Obj := k4 352 349 t8 404
noncomputable def z354 (P : Params) : Obj := k10
noncomputable def z355 (P : Params) : Obj := k1
noncomputable def z356 (P : Params) : Obj := k2
noncomputable def z357 (P : Params) : Obj := k11 s_self 636 s_items 637 s_place 638
noncomputable def z358 (P : Params) : Obj := k1
noncomputable def z359 (P : Params) : Obj := k6 h_2 t208 p_Infixd_initd b_Infixd_initd e_Infixd_initd
noncomputable def z360 (P : Params) : Obj := k7 h_2 633 t208 634 635 146 3 355 356 357 358 359 639 640
noncomputable def z361 (P : Params) : Obj := k12 h_2 t208 p_Infixd_initd b_Infixd_initd e_Infixd_initd 354 t8 404 360
noncomputable def z362 (P : Params) : Obj := k1
noncomputable def z363 (P : Params) : Obj := k2
noncomputable def z364 (P : Params) : Obj := k5 s_self 645
noncomputable def z365 (P : Params) : Obj := k1
noncomputable def z366 (P : Params) : Obj := k6 s_row t209 p_Infix_row b_Infix_row e_Infix_row
noncomputable def z367 (P : Params) : Obj := k7 s_row 642 t209 643 644 150 1 362 363 364 365 366 646 647
noncomputable def z368 (P : Params) : Obj := k8 s_row t209 p_Infix_row b_Infix_row e_Infix_row t8 404 367
noncomputable def z369 (P : Params) : Obj := k5 s_items 649
noncomputable def z370 (P : Params) : Obj := k14 P 628 t8 404 632 144 631 641 361 s_row 648 368 t179 650 369 651 2
noncomputable def z371 (P : Params) : Obj := k25 s_Infix 371 370 347 621 629
noncomputable def z372 (P : Params) : Obj := k16 371
noncomputable def z373 (P : Params) : Obj := k17 371
noncomputable def z374 (P : Params) : Obj := k18 207
noncomputable def z375 (P : Params) : Obj := k9
noncomputable def z376 (P : Params) : Obj := k23 P 661 t8 404 663 s_Tuple 662 665 152 664 674 388 681 395 683 396
noncomputable def z377 (P : Params) : Obj := k1
noncomputable def z378 (P : Params) : Obj := k24 154 387 158 394
noncomputable def z379 (P : Params) : Obj := k3 s_Tuple 656 657 658 152 377 181 378 659 660
noncomputable def z380 (P : Params) : Obj := k4 379 376 t8 404
noncomputable def z381 (P : Params) : Obj := k10
noncomputable def z382 (P : Params) : Obj := k1
noncomputable def z383 (P : Params) : Obj := k2
noncomputable def z384 (P : Params) : Obj := k11 s_self 669 s_items 670 s_place 671
noncomputable def z385 (P : Params) : Obj := k1
noncomputable def z386 (P : Params) : Obj := k6 h_2 t210 p_Tupled_initd b_Tupled_initd e_Infixd_initd
noncomputable def z387 (P : Params) : Obj := k7 h_2 666 t210 667 668 154 3 382 383 384 385 386 672 673
noncomputable def z388 (P : Params) : Obj := k12 h_2 t210 p_Tupled_initd b_Tupled_initd e_Infixd_initd 381 t8 404 387
noncomputable def z389 (P : Params) : Obj := k1
noncomputable def z390 (P : Params) : Obj := k2
noncomputable def z391 (P : Params) : Obj := k5 s_self 678
noncomputable def z392 (P : Params) : Obj := k1
noncomputable def z393 (P : Params) : Obj := k6 s_row t211 p_Tuple_row b_Tuple_row e_Infix_row
noncomputable def z394 (P : Params) : Obj := k7 s_row 675 t211 676 677 158 1 389 390 391 392 393 679 680
noncomputable def z395 (P : Params) : Obj := k8 s_row t211 p_Tuple_row b_Tuple_row e_Infix_row t8 404 394
noncomputable def z396 (P : Params) : Obj := k5 s_items 682
noncomputable def z397 (P : Params) : Obj := k14 P 661 t8 404 665 152 664 674 388 s_row 681 395 t179 683 396 684 2
noncomputable def z398 (P : Params) : Obj := k25 s_Tuple 398 397 374 654 662
noncomputable def z399 (P : Params) : Obj := k16 398
noncomputable def z400 (P : Params) : Obj := k17 398
noncomputable def z401 (P : Params) : Obj := k18 207
noncomputable def z402 (P : Params) : Obj := k9
noncomputable def z403 (P : Params) : Obj := k23 P 694 t8 404 696 s_ListOf 695 698 160 697 707 415 714 422 716 423
noncomputable def z404 (P : Params) : Obj := k1
noncomputable def z405 (P : Params) : Obj := k24 162 414 166 421
noncomputable def z406 (P : Params) : Obj := k3 s_ListOf 689 690 691 160 404 181 405 692 693
noncomputable def z407 (P : Params) : Obj := k4 406 403 t8 404
noncomputable def z408 (P : Params) : Obj := k10
noncomputable def z409 (P : Params) : Obj := k1
noncomputable def z410 (P : Params) : Obj := k2
noncomputable def z411 (P : Params) : Obj := k11 s_self 702 s_items 703 s_place 704
noncomputable def z412 (P : Params) : Obj := k1
noncomputable def z413 (P : Params) : Obj := k6 h_2 t212 p_ListOfd_initd b_ListOfd_initd e_Infixd_initd
noncomputable def z414 (P : Params) : Obj := k7 h_2 699 t212 700 701 162 3 409 410 411 412 413 705 706
noncomputable def z415 (P : Params) : Obj := k12 h_2 t212 p_ListOfd_initd b_ListOfd_initd e_Infixd_initd 408 t8 404 414
noncomputable def z416 (P : Params) : Obj := k1
noncomputable def z417 (P : Params) : Obj := k2
noncomputable def z418 (P : Params) : Obj := k5 s_self 711
noncomputable def z419 (P : Params) : Obj := k1
noncomputable def z420 (P : Params) : Obj := k6 s_row t213 p_ListOf_row b_ListOf_row e_Infix_row
noncomputable def z421 (P : Params) : Obj := k7 s_row 708 t213 709 710 166 1 416 417 418 419 420 712 713
noncomputable def z422 (P : Params) : Obj := k8 s_row t213 p_ListOf_row b_ListOf_row e_Infix_row t8 404 421
noncomputable def z423 (P : Params) : Obj := k5 s_items 715
noncomputable def z424 (P : Params) : Obj := k14 P 694 t8 404 698 160 697 707 415 s_row 714 422 t179 716 423 717 2
noncomputable def z425 (P : Params) : Obj := k25 s_ListOf 425 424 401 687 695
noncomputable def z426 (P : Params) : Obj := k16 425
noncomputable def z427 (P : Params) : Obj := k17 425
noncomputable def z428 (P : Params) : Obj := k18 207
noncomputable def z429 (P : Params) : Obj := k9
noncomputable def z430 (P : Params) : Obj := k23 P 727 t8 404 729 s_Paren 728 731 168 730 740 442 747 449 749 450
noncomputable def z431 (P : Params) : Obj := k1
noncomputable def z432 (P : Params) : Obj := k24 170 441 174 448
noncomputable def z433 (P : Params) : Obj := k3 s_Paren 722 723 724 168 431 181 432 725 726
noncomputable def z434 (P : Params) : Obj := k4 433 430 t8 404
noncomputable def z435 (P : Params) : Obj := k10
noncomputable def z436 (P : Params) : Obj := k1
noncomputable def z437 (P : Params) : Obj := k2
noncomputable def z438 (P : Params) : Obj := k11 s_self 735 s_expr 736 s_place 737
noncomputable def z439 (P : Params) : Obj := k1
noncomputable def z440 (P : Params) : Obj := k6 h_2 t214 p_Parend_initd b_Parend_initd e_Parend_initd
noncomputable def z441 (P : Params) : Obj := k7 h_2 732 t214 733 734 170 3 436 437 438 439 440 738 739
noncomputable def z442 (P : Params) : Obj := k12 h_2 t214 p_Parend_initd b_Parend_initd e_Parend_initd 435 t8 404 441
noncomputable def z443 (P : Params) : Obj := k1
noncomputable def z444 (P : Params) : Obj := k2
noncomputable def z445 (P : Params) : Obj := k5 s_self 744
noncomputable def z446 (P : Params) : Obj := k1
noncomputable def z447 (P : Params) : Obj := k6 s_row t215 p_Paren_row b_Paren_row e_Cursor_peek
noncomputable def z448 (P : Params) : Obj := k7 s_row 741 t215 742 743 174 1 443 444 445 446 447 745 746
noncomputable def z449 (P : Params) : Obj := k8 s_row t215 p_Paren_row b_Paren_row e_Cursor_peek t8 404 448
noncomputable def z450 (P : Params) : Obj := k5 s_expr 748
noncomputable def z451 (P : Params) : Obj := k14 P 727 t8 404 731 168 730 740 442 s_row 747 449 t179 749 450 750 2
noncomputable def z452 (P : Params) : Obj := k25 s_Paren 452 451 428 720 728
noncomputable def z453 (P : Params) : Obj := k16 452
noncomputable def z454 (P : Params) : Obj := k17 452
noncomputable def z455 (P : Params) : Obj := k18 207
noncomputable def z456 (P : Params) : Obj := k9
noncomputable def z457 (P : Params) : Obj := k23 P 762 t11 753 764 s_PVar 763 766 177 765 775 469 782 476 784 477
noncomputable def z458 (P : Params) : Obj := k1
noncomputable def z459 (P : Params) : Obj := k24 179 468 183 475
noncomputable def z460 (P : Params) : Obj := k3 s_PVar 757 758 759 177 458 181 459 760 761
noncomputable def z461 (P : Params) : Obj := k4 460 457 t11 753
noncomputable def z462 (P : Params) : Obj := k10
noncomputable def z463 (P : Params) : Obj := k1
noncomputable def z464 (P : Params) : Obj := k2
noncomputable def z465 (P : Params) : Obj := k11 s_self 770 s_name 771 s_place 772
noncomputable def z466 (P : Params) : Obj := k1
noncomputable def z467 (P : Params) : Obj := k6 h_2 t216 p_PVard_initd b_PVard_initd e_Vard_initd
noncomputable def z468 (P : Params) : Obj := k7 h_2 767 t216 768 769 179 3 463 464 465 466 467 773 774
noncomputable def z469 (P : Params) : Obj := k12 h_2 t216 p_PVard_initd b_PVard_initd e_Vard_initd 462 t11 753 468
noncomputable def z470 (P : Params) : Obj := k1
noncomputable def z471 (P : Params) : Obj := k2
noncomputable def z472 (P : Params) : Obj := k5 s_self 779
noncomputable def z473 (P : Params) : Obj := k1
noncomputable def z474 (P : Params) : Obj := k6 s_row t217 p_PVar_row b_PVar_row e_Cursor_peek
noncomputable def z475 (P : Params) : Obj := k7 s_row 776 t217 777 778 183 1 470 471 472 473 474 780 781
noncomputable def z476 (P : Params) : Obj := k8 s_row t217 p_PVar_row b_PVar_row e_Cursor_peek t11 753 475
noncomputable def z477 (P : Params) : Obj := k5 s_name 783
noncomputable def z478 (P : Params) : Obj := k14 P 762 t11 753 766 177 765 775 469 s_row 782 476 t179 784 477 785 2
noncomputable def z479 (P : Params) : Obj := k25 s_PVar 479 478 455 755 763
noncomputable def z480 (P : Params) : Obj := k16 479
noncomputable def z481 (P : Params) : Obj := k17 479
noncomputable def z482 (P : Params) : Obj := k18 207
noncomputable def z483 (P : Params) : Obj := k9
noncomputable def z484 (P : Params) : Obj := k23 P 795 t11 753 797 s_PWild 796 799 185 798 807 496 814 503 815 504
noncomputable def z485 (P : Params) : Obj := k1
noncomputable def z486 (P : Params) : Obj := k24 187 495 190 502
noncomputable def z487 (P : Params) : Obj := k3 s_PWild 790 791 792 185 485 181 486 793 794
noncomputable def z488 (P : Params) : Obj := k4 487 484 t11 753
noncomputable def z489 (P : Params) : Obj := k10
noncomputable def z490 (P : Params) : Obj := k1
noncomputable def z491 (P : Params) : Obj := k2
noncomputable def z492 (P : Params) : Obj := k13 s_self 803 s_place 804
noncomputable def z493 (P : Params) : Obj := k1
noncomputable def z494 (P : Params) : Obj := k6 h_2 t218 p_PWildd_initd b_PWildd_initd e_PWildd_initd
noncomputable def z495 (P : Params) : Obj := k7 h_2 800 t218 801 802 187 2 490 491 492 493 494 805 806
noncomputable def z496 (P : Params) : Obj := k12 h_2 t218 p_PWildd_initd b_PWildd_initd e_PWildd_initd 489 t11 753 495
noncomputable def z497 (P : Params) : Obj := k1
noncomputable def z498 (P : Params) : Obj := k2
noncomputable def z499 (P : Params) : Obj := k5 s_self 811
noncomputable def z500 (P : Params) : Obj := k1
noncomputable def z501 (P : Params) : Obj := k6 s_row t219 p_PWild_row b_PWild_row e_Cursor_peek
noncomputable def z502 (P : Params) : Obj := k7 s_row 808 t219 809 810 190 1 497 498 499 500 501 812 813
noncomputable def z503 (P : Params) : Obj := k8 s_row t219 p_PWild_row b_PWild_row e_Cursor_peek t11 753 502
noncomputable def z504 (P : Params) : Obj := k1
noncomputable def z505 (P : Params) : Obj := k14 P 795 t11 753 799 185 798 807 496 s_row 814 503 t179 815 504 816 2
noncomputable def z506 (P : Params) : Obj := k25 s_PWild 506 505 482 788 796
noncomputable def z507 (P : Params) : Obj := k16 506
noncomputable def z508 (P : Params) : Obj := k17 506
noncomputable def z509 (P : Params) : Obj := k18 207
noncomputable def z510 (P : Params) : Obj := k9
noncomputable def z511 (P : Params) : Obj := k23 P 826 t11 753 828 s_PLit 827 830 192 829 840 523 847 530 850 531
noncomputable def z512 (P : Params) : Obj := k1
noncomputable def z513 (P : Params) : Obj := k24 194 522 199 529
noncomputable def z514 (P : Params) : Obj := k3 s_PLit 821 822 823 192 512 181 513 824 825
noncomputable def z515 (P : Params) : Obj := k4 514 511 t11 753
noncomputable def z516 (P : Params) : Obj := k10
noncomputable def z517 (P : Params) : Obj := k1
noncomputable def z518 (P : Params) : Obj := k2
noncomputable def z519 (P : Params) : Obj := k19 s_self 834 s_kind 835 s_value 836 s_place 837
noncomputable def z520 (P : Params) : Obj := k1
noncomputable def z521 (P : Params) : Obj := k6 h_2 t220 p_PLitd_initd b_PLitd_initd e_Litd_initd
noncomputable def z522 (P : Params) : Obj := k7 h_2 831 t220 832 833 194 4 517 518 519 520 521 838 839
noncomputable def z523 (P : Params) : Obj := k12 h_2 t220 p_PLitd_initd b_PLitd_initd e_Litd_initd 516 t11 753 522
noncomputable def z524 (P : Params) : Obj := k1
noncomputable def z525 (P : Params) : Obj := k2
noncomputable def z526 (P : Params) : Obj := k5 s_self 844
noncomputable def z527 (P : Params) : Obj := k1
noncomputable def z528 (P : Params) : Obj := k6 s_row t221 p_PLit_row b_PLit_row e_Cursor_peek
noncomputable def z529 (P : Params) : Obj := k7 s_row 841 t221 842 843 199 1 524 525 526 527 528 845 846
noncomputable def z530 (P : Params) : Obj := k8 s_row t221 p_PLit_row b_PLit_row e_Cursor_peek t11 753 529
noncomputable def z531 (P : Params) : Obj := k13 s_kind 848 s_value 849
noncomputable def z532 (P : Params) : Obj := k14 P 826 t11 753 830 192 829 840 523 s_row 847 530 t179 850 531 851 2
noncomputable def z533 (P : Params) : Obj := k25 s_PLit 533 532 509 819 827
noncomputable def z534 (P : Params) : Obj := k16 533
noncomputable def z535 (P : Params) : Obj := k17 533
noncomputable def z536 (P : Params) : Obj := k18 207
noncomputable def z537 (P : Params) : Obj := k9
noncomputable def z538 (P : Params) : Obj := k23 P 861 t11 753 863 s_PCon 862 865 201 864 875 550 882 557 885 558
noncomputable def z539 (P : Params) : Obj := k1
noncomputable def z540 (P : Params) : Obj := k24 203 549 208 556
noncomputable def z541 (P : Params) : Obj := k3 s_PCon 856 857 858 201 539 181 540 859 860
noncomputable def z542 (P : Params) : Obj := k4 541 538 t11 753
noncomputable def z543 (P : Params) : Obj := k10
noncomputable def z544 (P : Params) : Obj := k1
noncomputable def z545 (P : Params) : Obj := k2
noncomputable def z546 (P : Params) : Obj := k19 s_self 869 s_name 870 s_args 871 s_place 872
noncomputable def z547 (P : Params) : Obj := k1
noncomputable def z548 (P : Params) : Obj := k6 h_2 t222 p_PCond_initd b_PCond_initd e_PCond_initd
noncomputable def z549 (P : Params) : Obj := k7 h_2 866 t222 867 868 203 4 544 545 546 547 548 873 874
noncomputable def z550 (P : Params) : Obj := k12 h_2 t222 p_PCond_initd b_PCond_initd e_PCond_initd 543 t11 753 549
noncomputable def z551 (P : Params) : Obj := k1
noncomputable def z552 (P : Params) : Obj := k2
noncomputable def z553 (P : Params) : Obj := k5 s_self 879
noncomputable def z554 (P : Params) : Obj := k1
noncomputable def z555 (P : Params) : Obj := k6 s_row t223 p_PCon_row b_PCon_row e_Infix_row
noncomputable def z556 (P : Params) : Obj := k7 s_row 876 t223 877 878 208 1 551 552 553 554 555 880 881
noncomputable def z557 (P : Params) : Obj := k8 s_row t223 p_PCon_row b_PCon_row e_Infix_row t11 753 556
noncomputable def z558 (P : Params) : Obj := k13 s_args 883 s_name 884
noncomputable def z559 (P : Params) : Obj := k14 P 861 t11 753 865 201 864 875 550 s_row 882 557 t179 885 558 886 2
noncomputable def z560 (P : Params) : Obj := k25 s_PCon 560 559 536 854 862
noncomputable def z561 (P : Params) : Obj := k16 560
noncomputable def z562 (P : Params) : Obj := k17 560
noncomputable def z563 (P : Params) : Obj := k18 207
noncomputable def z564 (P : Params) : Obj := k9
noncomputable def z565 (P : Params) : Obj := k23 P 896 t11 753 898 s_PTuple 897 900 210 899 909 577 916 584 918 585
noncomputable def z566 (P : Params) : Obj := k1
noncomputable def z567 (P : Params) : Obj := k24 212 576 216 583
noncomputable def z568 (P : Params) : Obj := k3 s_PTuple 891 892 893 210 566 181 567 894 895
noncomputable def z569 (P : Params) : Obj := k4 568 565 t11 753
noncomputable def z570 (P : Params) : Obj := k10
noncomputable def z571 (P : Params) : Obj := k1
noncomputable def z572 (P : Params) : Obj := k2
noncomputable def z573 (P : Params) : Obj := k11 s_self 904 s_items 905 s_place 906
noncomputable def z574 (P : Params) : Obj := k1
noncomputable def z575 (P : Params) : Obj := k6 h_2 t224 p_PTupled_initd b_PTupled_initd e_Infixd_initd
noncomputable def z576 (P : Params) : Obj := k7 h_2 901 t224 902 903 212 3 571 572 573 574 575 907 908
noncomputable def z577 (P : Params) : Obj := k12 h_2 t224 p_PTupled_initd b_PTupled_initd e_Infixd_initd 570 t11 753 576
noncomputable def z578 (P : Params) : Obj := k1
noncomputable def z579 (P : Params) : Obj := k2
noncomputable def z580 (P : Params) : Obj := k5 s_self 913
noncomputable def z581 (P : Params) : Obj := k1
noncomputable def z582 (P : Params) : Obj := k6 s_row t225 p_PTuple_row b_PTuple_row e_Infix_row
noncomputable def z583 (P : Params) : Obj := k7 s_row 910 t225 911 912 216 1 578 579 580 581 582 914 915
noncomputable def z584 (P : Params) : Obj := k8 s_row t225 p_PTuple_row b_PTuple_row e_Infix_row t11 753 583
noncomputable def z585 (P : Params) : Obj := k5 s_items 917
noncomputable def z586 (P : Params) : Obj := k14 P 896 t11 753 900 210 899 909 577 s_row 916 584 t179 918 585 919 2
noncomputable def z587 (P : Params) : Obj := k25 s_PTuple 587 586 563 889 897
noncomputable def z588 (P : Params) : Obj := k16 587
noncomputable def z589 (P : Params) : Obj := k17 587
noncomputable def z590 (P : Params) : Obj := k18 207
noncomputable def z591 (P : Params) : Obj := k9
noncomputable def z592 (P : Params) : Obj := k23 P 929 t11 753 931 s_PList 930 933 218 932 942 604 949 611 951 612
noncomputable def z593 (P : Params) : Obj := k1
noncomputable def z594 (P : Params) : Obj := k24 220 603 224 610
noncomputable def z595 (P : Params) : Obj := k3 s_PList 924 925 926 218 593 181 594 927 928
noncomputable def z596 (P : Params) : Obj := k4 595 592 t11 753
noncomputable def z597 (P : Params) : Obj := k10
noncomputable def z598 (P : Params) : Obj := k1
noncomputable def z599 (P : Params) : Obj := k2
noncomputable def z600 (P : Params) : Obj := k11 s_self 937 s_items 938 s_place 939
noncomputable def z601 (P : Params) : Obj := k1
noncomputable def z602 (P : Params) : Obj := k6 h_2 t226 p_PListd_initd b_PListd_initd e_Infixd_initd
noncomputable def z603 (P : Params) : Obj := k7 h_2 934 t226 935 936 220 3 598 599 600 601 602 940 941
noncomputable def z604 (P : Params) : Obj := k12 h_2 t226 p_PListd_initd b_PListd_initd e_Infixd_initd 597 t11 753 603
noncomputable def z605 (P : Params) : Obj := k1
noncomputable def z606 (P : Params) : Obj := k2
noncomputable def z607 (P : Params) : Obj := k5 s_self 946
noncomputable def z608 (P : Params) : Obj := k1
noncomputable def z609 (P : Params) : Obj := k6 s_row t227 p_PList_row b_PList_row e_Infix_row
noncomputable def z610 (P : Params) : Obj := k7 s_row 943 t227 944 945 224 1 605 606 607 608 609 947 948
noncomputable def z611 (P : Params) : Obj := k8 s_row t227 p_PList_row b_PList_row e_Infix_row t11 753 610
noncomputable def z612 (P : Params) : Obj := k5 s_items 950
noncomputable def z613 (P : Params) : Obj := k14 P 929 t11 753 933 218 932 942 604 s_row 949 611 t179 951 612 952 2
noncomputable def z614 (P : Params) : Obj := k25 s_PList 614 613 590 922 930
noncomputable def z615 (P : Params) : Obj := k16 614
noncomputable def z616 (P : Params) : Obj := k17 614
noncomputable def z617 (P : Params) : Obj := k18 207
noncomputable def z618 (P : Params) : Obj := k9
noncomputable def z619 (P : Params) : Obj := k23 P 962 t11 753 964 s_PAs 963 966 226 965 976 631 983 638 986 639
noncomputable def z620 (P : Params) : Obj := k1
noncomputable def z621 (P : Params) : Obj := k24 228 630 233 637
noncomputable def z622 (P : Params) : Obj := k3 s_PAs 957 958 959 226 620 181 621 960 961
noncomputable def z623 (P : Params) : Obj := k4 622 619 t11 753
noncomputable def z624 (P : Params) : Obj := k10
noncomputable def z625 (P : Params) : Obj := k1
noncomputable def z626 (P : Params) : Obj := k2
noncomputable def z627 (P : Params) : Obj := k19 s_self 970 s_name 971 s_pattern 972 s_place 973
noncomputable def z628 (P : Params) : Obj := k1
noncomputable def z629 (P : Params) : Obj := k6 h_2 t228 p_PAsd_initd b_PAsd_initd e_PAsd_initd
noncomputable def z630 (P : Params) : Obj := k7 h_2 967 t228 968 969 228 4 625 626 627 628 629 974 975
noncomputable def z631 (P : Params) : Obj := k12 h_2 t228 p_PAsd_initd b_PAsd_initd e_PAsd_initd 624 t11 753 630
noncomputable def z632 (P : Params) : Obj := k1
noncomputable def z633 (P : Params) : Obj := k2
noncomputable def z634 (P : Params) : Obj := k5 s_self 980
noncomputable def z635 (P : Params) : Obj := k1
noncomputable def z636 (P : Params) : Obj := k6 s_row t229 p_PAs_row b_PAs_row e_Cursor_peek
noncomputable def z637 (P : Params) : Obj := k7 s_row 977 t229 978 979 233 1 632 633 634 635 636 981 982
noncomputable def z638 (P : Params) : Obj := k8 s_row t229 p_PAs_row b_PAs_row e_Cursor_peek t11 753 637
noncomputable def z639 (P : Params) : Obj := k13 s_name 984 s_pattern 985
noncomputable def z640 (P : Params) : Obj := k14 P 962 t11 753 966 226 965 976 631 s_row 983 638 t179 986 639 987 2
noncomputable def z641 (P : Params) : Obj := k25 s_PAs 641 640 617 955 963
noncomputable def z642 (P : Params) : Obj := k16 641
noncomputable def z643 (P : Params) : Obj := k17 641
noncomputable def z644 (P : Params) : Obj := k18 207
noncomputable def z645 (P : Params) : Obj := k9
noncomputable def z646 (P : Params) : Obj := k23 P 997 t11 753 999 s_PLazy 998 1001 235 1000 1010 658 1017 665 1019 666
noncomputable def z647 (P : Params) : Obj := k1
noncomputable def z648 (P : Params) : Obj := k24 237 657 241 664
noncomputable def z649 (P : Params) : Obj := k3 s_PLazy 992 993 994 235 647 181 648 995 996
noncomputable def z650 (P : Params) : Obj := k4 649 646 t11 753
noncomputable def z651 (P : Params) : Obj := k10
noncomputable def z652 (P : Params) : Obj := k1
noncomputable def z653 (P : Params) : Obj := k2
noncomputable def z654 (P : Params) : Obj := k11 s_self 1005 s_pattern 1006 s_place 1007
noncomputable def z655 (P : Params) : Obj := k1
noncomputable def z656 (P : Params) : Obj := k6 h_2 t230 p_PLazyd_initd b_PLazyd_initd e_PLazyd_initd
noncomputable def z657 (P : Params) : Obj := k7 h_2 1002 t230 1003 1004 237 3 652 653 654 655 656 1008 1009
noncomputable def z658 (P : Params) : Obj := k12 h_2 t230 p_PLazyd_initd b_PLazyd_initd e_PLazyd_initd 651 t11 753 657
noncomputable def z659 (P : Params) : Obj := k1
noncomputable def z660 (P : Params) : Obj := k2
noncomputable def z661 (P : Params) : Obj := k5 s_self 1014
noncomputable def z662 (P : Params) : Obj := k1
noncomputable def z663 (P : Params) : Obj := k6 s_row t231 p_PLazy_row b_PLazy_row e_Cursor_peek
noncomputable def z664 (P : Params) : Obj := k7 s_row 1011 t231 1012 1013 241 1 659 660 661 662 663 1015 1016
noncomputable def z665 (P : Params) : Obj := k8 s_row t231 p_PLazy_row b_PLazy_row e_Cursor_peek t11 753 664
noncomputable def z666 (P : Params) : Obj := k5 s_pattern 1018
noncomputable def z667 (P : Params) : Obj := k14 P 997 t11 753 1001 235 1000 1010 658 s_row 1017 665 t179 1019 666 1020 2
noncomputable def z668 (P : Params) : Obj := k25 s_PLazy 668 667 644 990 998
noncomputable def z669 (P : Params) : Obj := k16 668
noncomputable def z670 (P : Params) : Obj := k17 668
noncomputable def z671 (P : Params) : Obj := k18 207
noncomputable def z672 (P : Params) : Obj := k9
noncomputable def z673 (P : Params) : Obj := k23 P 1030 t11 753 1032 s_PBang 1031 1034 243 1033 1043 685 1050 692 1052 693
noncomputable def z674 (P : Params) : Obj := k1
noncomputable def z675 (P : Params) : Obj := k24 245 684 249 691
noncomputable def z676 (P : Params) : Obj := k3 s_PBang 1025 1026 1027 243 674 181 675 1028 1029
noncomputable def z677 (P : Params) : Obj := k4 676 673 t11 753
noncomputable def z678 (P : Params) : Obj := k10
noncomputable def z679 (P : Params) : Obj := k1
noncomputable def z680 (P : Params) : Obj := k2
noncomputable def z681 (P : Params) : Obj := k11 s_self 1038 s_pattern 1039 s_place 1040
noncomputable def z682 (P : Params) : Obj := k1
noncomputable def z683 (P : Params) : Obj := k6 h_2 t232 p_PBangd_initd b_PBangd_initd e_PLazyd_initd
noncomputable def z684 (P : Params) : Obj := k7 h_2 1035 t232 1036 1037 245 3 679 680 681 682 683 1041 1042
noncomputable def z685 (P : Params) : Obj := k12 h_2 t232 p_PBangd_initd b_PBangd_initd e_PLazyd_initd 678 t11 753 684
noncomputable def z686 (P : Params) : Obj := k1
noncomputable def z687 (P : Params) : Obj := k2
noncomputable def z688 (P : Params) : Obj := k5 s_self 1047
noncomputable def z689 (P : Params) : Obj := k1
noncomputable def z690 (P : Params) : Obj := k6 s_row t233 p_PBang_row b_PBang_row e_Cursor_peek
noncomputable def z691 (P : Params) : Obj := k7 s_row 1044 t233 1045 1046 249 1 686 687 688 689 690 1048 1049
noncomputable def z692 (P : Params) : Obj := k8 s_row t233 p_PBang_row b_PBang_row e_Cursor_peek t11 753 691
noncomputable def z693 (P : Params) : Obj := k5 s_pattern 1051
noncomputable def z694 (P : Params) : Obj := k14 P 1030 t11 753 1034 243 1033 1043 685 s_row 1050 692 t179 1052 693 1053 2
noncomputable def z695 (P : Params) : Obj := k25 s_PBang 695 694 671 1023 1031
noncomputable def z696 (P : Params) : Obj := k16 695
noncomputable def z697 (P : Params) : Obj := k17 695
noncomputable def z698 (P : Params) : Obj := k18 207
noncomputable def z699 (P : Params) : Obj := k9
noncomputable def z700 (P : Params) : Obj := k23 P 1063 t11 753 1065 s_PInfix 1064 1067 251 1066 1076 712 1083 719 1085 720
noncomputable def z701 (P : Params) : Obj := k1
noncomputable def z702 (P : Params) : Obj := k24 253 711 257 718
noncomputable def z703 (P : Params) : Obj := k3 s_PInfix 1058 1059 1060 251 701 181 702 1061 1062
noncomputable def z704 (P : Params) : Obj := k4 703 700 t11 753
noncomputable def z705 (P : Params) : Obj := k10
noncomputable def z706 (P : Params) : Obj := k1
noncomputable def z707 (P : Params) : Obj := k2
noncomputable def z708 (P : Params) : Obj := k11 s_self 1071 s_items 1072 s_place 1073
noncomputable def z709 (P : Params) : Obj := k1
noncomputable def z710 (P : Params) : Obj := k6 h_2 t234 p_PInfixd_initd b_PInfixd_initd e_Infixd_initd
noncomputable def z711 (P : Params) : Obj := k7 h_2 1068 t234 1069 1070 253 3 706 707 708 709 710 1074 1075
noncomputable def z712 (P : Params) : Obj := k12 h_2 t234 p_PInfixd_initd b_PInfixd_initd e_Infixd_initd 705 t11 753 711
noncomputable def z713 (P : Params) : Obj := k1
noncomputable def z714 (P : Params) : Obj := k2
noncomputable def z715 (P : Params) : Obj := k5 s_self 1080
noncomputable def z716 (P : Params) : Obj := k1
noncomputable def z717 (P : Params) : Obj := k6 s_row t235 p_PInfix_row b_PInfix_row e_Infix_row
noncomputable def z718 (P : Params) : Obj := k7 s_row 1077 t235 1078 1079 257 1 713 714 715 716 717 1081 1082
noncomputable def z719 (P : Params) : Obj := k8 s_row t235 p_PInfix_row b_PInfix_row e_Infix_row t11 753 718
noncomputable def z720 (P : Params) : Obj := k5 s_items 1084
noncomputable def z721 (P : Params) : Obj := k14 P 1063 t11 753 1067 251 1066 1076 712 s_row 1083 719 t179 1085 720 1086 2
noncomputable def z722 (P : Params) : Obj := k25 s_PInfix 722 721 698 1056 1064
noncomputable def z723 (P : Params) : Obj := k16 722
noncomputable def z724 (P : Params) : Obj := k17 722
noncomputable def z725 (P : Params) : Obj := k18 207
noncomputable def z726 (P : Params) : Obj := k9
noncomputable def z727 (P : Params) : Obj := k23 P 1096 t11 753 1098 s_PParen 1097 1100 259 1099 1109 739 1116 746 1118 747
noncomputable def z728 (P : Params) : Obj := k1
noncomputable def z729 (P : Params) : Obj := k24 261 738 265 745
noncomputable def z730 (P : Params) : Obj := k3 s_PParen 1091 1092 1093 259 728 181 729 1094 1095
noncomputable def z731 (P : Params) : Obj := k4 730 727 t11 753
noncomputable def z732 (P : Params) : Obj := k10
noncomputable def z733 (P : Params) : Obj := k1
noncomputable def z734 (P : Params) : Obj := k2
noncomputable def z735 (P : Params) : Obj := k11 s_self 1104 s_pattern 1105 s_place 1106
noncomputable def z736 (P : Params) : Obj := k1
noncomputable def z737 (P : Params) : Obj := k6 h_2 t236 p_PParend_initd b_PParend_initd e_PLazyd_initd
noncomputable def z738 (P : Params) : Obj := k7 h_2 1101 t236 1102 1103 261 3 733 734 735 736 737 1107 1108
noncomputable def z739 (P : Params) : Obj := k12 h_2 t236 p_PParend_initd b_PParend_initd e_PLazyd_initd 732 t11 753 738
noncomputable def z740 (P : Params) : Obj := k1
noncomputable def z741 (P : Params) : Obj := k2
noncomputable def z742 (P : Params) : Obj := k5 s_self 1113
noncomputable def z743 (P : Params) : Obj := k1
noncomputable def z744 (P : Params) : Obj := k6 s_row t237 p_PParen_row b_PParen_row e_Cursor_peek
noncomputable def z745 (P : Params) : Obj := k7 s_row 1110 t237 1111 1112 265 1 740 741 742 743 744 1114 1115
noncomputable def z746 (P : Params) : Obj := k8 s_row t237 p_PParen_row b_PParen_row e_Cursor_peek t11 753 745
noncomputable def z747 (P : Params) : Obj := k5 s_pattern 1117
noncomputable def z748 (P : Params) : Obj := k14 P 1096 t11 753 1100 259 1099 1109 739 s_row 1116 746 t179 1118 747 1119 2
noncomputable def z749 (P : Params) : Obj := k25 s_PParen 749 748 725 1089 1097
noncomputable def z750 (P : Params) : Obj := k16 749
noncomputable def z751 (P : Params) : Obj := k17 749
noncomputable def z752 (P : Params) : Obj := k11 s_int 1124 s_char 1125 s_text 1126
noncomputable def z753 (P : Params) : Obj := k1
noncomputable def z754 (P : Params) : Obj := k2
noncomputable def z755 (P : Params) : Obj := k11 s_cursor 1131 s_place 1132 s_items 1133
noncomputable def z756 (P : Params) : Obj := k1
noncomputable def z757 (P : Params) : Obj := k6 s_read_pattern_at s_read_pattern_at p_read_pattern_at b_read_pattern_at e_read_pattern_at
noncomputable def z758 (P : Params) : Obj := k7 s_read_pattern_at 1128 s_read_pattern_at 1129 1130 269 1 753 754 755 756 757 1134 1135
noncomputable def z759 (P : Params) : Obj := k8 s_read_pattern_at s_read_pattern_at p_read_pattern_at b_read_pattern_at e_read_pattern_at t12 1122 758
noncomputable def z760 (P : Params) : Obj := k1
noncomputable def z761 (P : Params) : Obj := k2
noncomputable def z762 (P : Params) : Obj := k5 s_cursor 1140
noncomputable def z763 (P : Params) : Obj := k1
noncomputable def z764 (P : Params) : Obj := k6 s_is_con_operator s_is_con_operator p_is_con_operator b_is_con_operator e_is_con_operator
noncomputable def z765 (P : Params) : Obj := k7 s_is_con_operator 1137 s_is_con_operator 1138 1139 276 1 760 761 762 763 764 1141 1142
noncomputable def z766 (P : Params) : Obj := k8 s_is_con_operator s_is_con_operator p_is_con_operator b_is_con_operator e_is_con_operator t12 1122 765
noncomputable def z767 (P : Params) : Obj := k1
noncomputable def z768 (P : Params) : Obj := k2
noncomputable def z769 (P : Params) : Obj := k11 s_cursor 1147 s_word 1148 s_name 1149
noncomputable def z770 (P : Params) : Obj := k1
noncomputable def z771 (P : Params) : Obj := k6 s_read_con_operator s_read_con_operator p_read_con_operator b_read_con_operator e_read_con_operator
noncomputable def z772 (P : Params) : Obj := k7 s_read_con_operator 1144 s_read_con_operator 1145 1146 278 1 767 768 769 770 771 1150 1151
noncomputable def z773 (P : Params) : Obj := k8 s_read_con_operator s_read_con_operator p_read_con_operator b_read_con_operator e_read_con_operator t12 1122 772
noncomputable def z774 (P : Params) : Obj := k1
noncomputable def z775 (P : Params) : Obj := k2
noncomputable def z776 (P : Params) : Obj := k19 s_cursor 1156 s_word 1157 s_name 1158 s_args 1159
noncomputable def z777 (P : Params) : Obj := k1
noncomputable def z778 (P : Params) : Obj := k6 s_read_part s_read_part p_read_part b_read_part e_read_part
noncomputable def z779 (P : Params) : Obj := k7 s_read_part 1153 s_read_part 1154 1155 285 1 774 775 776 777 778 1160 1161
noncomputable def z780 (P : Params) : Obj := k8 s_read_part s_read_part p_read_part b_read_part e_read_part t12 1122 779
noncomputable def z781 (P : Params) : Obj := k1
noncomputable def z782 (P : Params) : Obj := k2
noncomputable def z783 (P : Params) : Obj := k13 s_cursor 1166 s_name 1167
noncomputable def z784 (P : Params) : Obj := k1
noncomputable def z785 (P : Params) : Obj := k6 s_read_con_name s_read_con_name p_read_con_name b_read_con_name e_read_con_name
noncomputable def z786 (P : Params) : Obj := k7 s_read_con_name 1163 s_read_con_name 1164 1165 297 1 781 782 783 784 785 1168 1169
noncomputable def z787 (P : Params) : Obj := k8 s_read_con_name s_read_con_name p_read_con_name b_read_con_name e_read_con_name t12 1122 786
noncomputable def z788 (P : Params) : Obj := k1
noncomputable def z789 (P : Params) : Obj := k2
noncomputable def z790 (P : Params) : Obj := k5 s_word 1174
noncomputable def z791 (P : Params) : Obj := k1
noncomputable def z792 (P : Params) : Obj := k6 s_is_con_symbol s_is_con_symbol p_is_con_symbol b_is_con_symbol e_full_name
noncomputable def z793 (P : Params) : Obj := k7 s_is_con_symbol 1171 s_is_con_symbol 1172 1173 306 1 788 789 790 791 792 1175 1176
noncomputable def z794 (P : Params) : Obj := k8 s_is_con_symbol s_is_con_symbol p_is_con_symbol b_is_con_symbol e_full_name t12 1122 793
noncomputable def z795 (P : Params) : Obj := k1
noncomputable def z796 (P : Params) : Obj := k2
noncomputable def z797 (P : Params) : Obj := k13 s_cursor 1181 s_word 1182
noncomputable def z798 (P : Params) : Obj := k1
noncomputable def z799 (P : Params) : Obj := k6 s_is_pattern_atom s_is_pattern_atom p_is_pattern_atom b_is_pattern_atom e_is_pattern_atom
noncomputable def z800 (P : Params) : Obj := k7 s_is_pattern_atom 1178 s_is_pattern_atom 1179 1180 308 1 795 796 797 798 799 1183 1184
noncomputable def z801 (P : Params) : Obj := k8 s_is_pattern_atom s_is_pattern_atom p_is_pattern_atom b_is_pattern_atom e_is_pattern_atom t12 1122 800
noncomputable def z802 (P : Params) : Obj := k1
noncomputable def z803 (P : Params) : Obj := k2
noncomputable def z804 (P : Params) : Obj := k11 s_cursor 1189 s_word 1190 s_place 1191
noncomputable def z805 (P : Params) : Obj := k1
noncomputable def z806 (P : Params) : Obj := k6 s_read_atom_pattern s_read_atom_pattern p_read_atom_pattern b_read_atom_pattern e_read_atom_pattern
noncomputable def z807 (P : Params) : Obj := k7 s_read_atom_pattern 1186 s_read_atom_pattern 1187 1188 317 1 802 803 804 805 806 1192 1193
noncomputable def z808 (P : Params) : Obj := k8 s_read_atom_pattern s_read_atom_pattern p_read_atom_pattern b_read_atom_pattern e_read_atom_pattern t12 1122 807
noncomputable def z809 (P : Params) : Obj := k1
noncomputable def z810 (P : Params) : Obj := k2
noncomputable def z811 (P : Params) : Obj := k13 s_cursor 1198 s_found 1199
noncomputable def z812 (P : Params) : Obj := k1
noncomputable def z813 (P : Params) : Obj := k6 s_read_several s_read_several p_read_several b_read_several e_read_several
noncomputable def z814 (P : Params) : Obj := k7 s_read_several 1195 s_read_several 1196 1197 335 1 809 810 811 812 813 1200 1201
noncomputable def z815 (P : Params) : Obj := k8 s_read_several s_read_several p_read_several b_read_several e_read_several t12 1122 814
noncomputable def z816 (P : Params) : Obj := k1
noncomputable def z817 (P : Params) : Obj := k2
noncomputable def z818 (P : Params) : Obj := k11 s_cursor 1206 s_place 1207 s_items 1208
noncomputable def z819 (P : Params) : Obj := k1
noncomputable def z820 (P : Params) : Obj := k6 s_read_list_pattern s_read_list_pattern p_read_list_pattern b_read_list_pattern e_read_list_pattern
noncomputable def z821 (P : Params) : Obj := k7 s_read_list_pattern 1203 s_read_list_pattern 1204 1205 340 2 816 817 818 819 820 1209 1210
noncomputable def z822 (P : Params) : Obj := k8 s_read_list_pattern s_read_list_pattern p_read_list_pattern b_read_list_pattern e_read_list_pattern t12 1122 821
noncomputable def z823 (P : Params) : Obj := k1
noncomputable def z824 (P : Params) : Obj := k2
noncomputable def z825 (P : Params) : Obj := k11 s_cursor 1215 s_place 1216 s_items 1217
noncomputable def z826 (P : Params) : Obj := k1
noncomputable def z827 (P : Params) : Obj := k6 s_read_bracketed_pattern s_read_bracketed_pattern p_read_bracketed_pattern b_read_bracketed_pattern e_read_bracketed_pattern
noncomputable def z828 (P : Params) : Obj := k7 s_read_bracketed_pattern 1212 s_read_bracketed_pattern 1213 1214 346 2 823 824 825 826 827 1218 1219
noncomputable def z829 (P : Params) : Obj := k8 s_read_bracketed_pattern s_read_bracketed_pattern p_read_bracketed_pattern b_read_bracketed_pattern e_read_bracketed_pattern t12 1122 828
noncomputable def z830 (P : Params) : Obj := k1
noncomputable def z831 (P : Params) : Obj := k2
noncomputable def z832 (P : Params) : Obj := k5 s_name 1224
noncomputable def z833 (P : Params) : Obj := k1
noncomputable def z834 (P : Params) : Obj := k6 s_is_plain_name s_is_plain_name p_is_plain_name b_is_plain_name e_is_plain_name
noncomputable def z835 (P : Params) : Obj := k7 s_is_plain_name 1221 s_is_plain_name 1222 1223 352 1 830 831 832 833 834 1225 1226
noncomputable def z836 (P : Params) : Obj := k8 s_is_plain_name s_is_plain_name p_is_plain_name b_is_plain_name e_is_plain_name t12 1122 835
noncomputable def z837 (P : Params) : Obj := k1
noncomputable def z838 (P : Params) : Obj := k2
noncomputable def z839 (P : Params) : Obj := k6 s_pattern_of s_pattern_of p_pattern_of b_pattern_of e_pattern_of
noncomputable def z840 (P : Params) : Obj := k22 s_pattern_of 1228 1229 1230 354 1 837 838 839 1231 1232
noncomputable def z841 (P : Params) : Obj := k8 s_pattern_of s_pattern_of p_pattern_of b_pattern_of e_pattern_of t12 1122 840
noncomputable def z842 (P : Params) : Obj := k1
noncomputable def z843 (P : Params) : Obj := k2
noncomputable def z844 (P : Params) : Obj := k6 s_applied_pattern s_applied_pattern p_applied_pattern b_applied_pattern e_applied_pattern
noncomputable def z845 (P : Params) : Obj := k22 s_applied_pattern 1234 1235 1236 372 1 842 843 844 1237 1238
noncomputable def z846 (P : Params) : Obj := k8 s_applied_pattern s_applied_pattern p_applied_pattern b_applied_pattern e_applied_pattern t12 1122 845
noncomputable def z847 (P : Params) : Obj := k1
noncomputable def z848 (P : Params) : Obj := k2
noncomputable def z849 (P : Params) : Obj := ⟨.type "tuple",none,.seq ⟨[.str s_items 1243,.str s_place 1244,.str s_found 1245,.str s_at 1246,.str s_item 1247,.str s_behind 1248]⟩ 0,⟨[]⟩⟩
noncomputable def z850 (P : Params) : Obj := k1
noncomputable def z851 (P : Params) : Obj := k6 s_infix_pattern s_infix_pattern p_infix_pattern b_infix_pattern e_infix_pattern
noncomputable def z852 (P : Params) : Obj := k7 s_infix_pattern 1240 s_infix_pattern 1241 1242 381 2 847 848 849 850 851 1249 1250
noncomputable def z853 (P : Params) : Obj := k8 s_infix_pattern s_infix_pattern p_infix_pattern b_infix_pattern e_infix_pattern t12 1122 852
noncomputable def z854 (P : Params) : Obj := k1
noncomputable def z855 (P : Params) : Obj := k2
noncomputable def z856 (P : Params) : Obj := k5 s_op 1255
noncomputable def z857 (P : Params) : Obj := k1
noncomputable def z858 (P : Params) : Obj := k6 s_con_operator s_con_operator p_con_operator b_con_operator e_con_operator
noncomputable def z859 (P : Params) : Obj := k7 s_con_operator 1252 s_con_operator 1253 1254 395 1 854 855 856 857 858 1256 1257
noncomputable def z860 (P : Params) : Obj := k8 s_con_operator s_con_operator p_con_operator b_con_operator e_con_operator t12 1122 859
noncomputable def z861 (P : Params) : Obj := k1
noncomputable def z862 (P : Params) : Obj := k9
noncomputable def z863 (P : Params) : Obj := ⟨.type "dict",none,.dict ⟨[⟨PySem.PyData.keyHash P t176,.str t176 1268,.str t18 1259⟩,⟨PySem.PyData.keyHash P t177,.str t177 1270,.str s_WordRow 1269⟩,⟨PySem.PyData.keyHash P t178,.str t178 1272,.int 400 1271⟩,⟨PySem.PyData.keyHash P h_2,.str h_2 1281,.ref 874⟩,⟨PySem.PyData.keyHash P s_peek,.str s_peek 1288,.ref 881⟩,⟨PySem.PyData.keyHash P s_next,.str s_next 1296,.ref 888⟩,⟨PySem.PyData.keyHash P s_close_by_error,.str s_close_by_error 1303,.ref 895⟩,⟨PySem.PyData.keyHash P s_is_joined,.str s_is_joined 1310,.ref 902⟩,⟨PySem.PyData.keyHash P t179,.str t179 1314,.ref 903⟩]⟩ 9,⟨[]⟩⟩
noncomputable def z864 (P : Params) : Obj := k1
noncomputable def z865 (P : Params) : Obj := ⟨.none,none,.fields ⟨[.int 402 0,.int 4 0,.ref 873,.int 407 0,.int 4 0,.ref 880,.int 410 0,.int 4 0,.ref 887,.int 416 0,.int 4 0,.ref 894,.int 419 0,.int 4 0,.ref 901]⟩,⟨[]⟩⟩
noncomputable def z866 (P : Params) : Obj := k3 s_WordRow 1263 1264 1265 400 864 181 865 1266 1267
noncomputable def z867 (P : Params) : Obj := k4 866 863 t18 1259
noncomputable def z868 (P : Params) : Obj := k1
noncomputable def z869 (P : Params) : Obj := k2
noncomputable def z870 (P : Params) : Obj := k11 s_self 1276 s_words 1277 s_end 1278
noncomputable def z871 (P : Params) : Obj := k1
noncomputable def z872 (P : Params) : Obj := k6 h_2 t238 p_WordRowd_initd b_WordRowd_initd e_WordRowd_initd
noncomputable def z873 (P : Params) : Obj := k7 h_2 1273 t238 1274 1275 402 3 868 869 870 871 872 1279 1280
noncomputable def z874 (P : Params) : Obj := k8 h_2 t238 p_WordRowd_initd b_WordRowd_initd e_WordRowd_initd t18 1259 873
noncomputable def z875 (P : Params) : Obj := k1
noncomputable def z876 (P : Params) : Obj := k2
noncomputable def z877 (P : Params) : Obj := k5 s_self 1285
noncomputable def z878 (P : Params) : Obj := k1
noncomputable def z879 (P : Params) : Obj := k6 s_peek t239 p_WordRow_peek b_WordRow_peek e_WordRow_peek
noncomputable def z880 (P : Params) : Obj := k7 s_peek 1282 t239 1283 1284 407 1 875 876 877 878 879 1286 1287
noncomputable def z881 (P : Params) : Obj := k8 s_peek t239 p_WordRow_peek b_WordRow_peek e_WordRow_peek t18 1259 880
noncomputable def z882 (P : Params) : Obj := k1
noncomputable def z883 (P : Params) : Obj := k2
noncomputable def z884 (P : Params) : Obj := k13 s_self 1292 s_word 1293
noncomputable def z885 (P : Params) : Obj := k1
noncomputable def z886 (P : Params) : Obj := k6 s_next t240 p_WordRow_next b_WordRow_next e_WordRow_next
noncomputable def z887 (P : Params) : Obj := k7 s_next 1289 t240 1290 1291 410 1 882 883 884 885 886 1294 1295
noncomputable def z888 (P : Params) : Obj := k8 s_next t240 p_WordRow_next b_WordRow_next e_WordRow_next t18 1259 887
noncomputable def z889 (P : Params) : Obj := k1
noncomputable def z890 (P : Params) : Obj := k2
noncomputable def z891 (P : Params) : Obj := k5 s_self 1300
noncomputable def z892 (P : Params) : Obj := k1
noncomputable def z893 (P : Params) : Obj := k6 s_close_by_error t241 p_WordRow_close_by_error b_WordRow_close_by_error e_Cursor_peek
noncomputable def z894 (P : Params) : Obj := k7 s_close_by_error 1297 t241 1298 1299 416 1 889 890 891 892 893 1301 1302
noncomputable def z895 (P : Params) : Obj := k8 s_close_by_error t241 p_WordRow_close_by_error b_WordRow_close_by_error e_Cursor_peek t18 1259 894
noncomputable def z896 (P : Params) : Obj := k1
noncomputable def z897 (P : Params) : Obj := k2
noncomputable def z898 (P : Params) : Obj := k5 s_self 1307
noncomputable def z899 (P : Params) : Obj := k1
noncomputable def z900 (P : Params) : Obj := k6 s_is_joined t242 p_WordRow_is_joined b_WordRow_is_joined e_Cursor_is_joined
noncomputable def z901 (P : Params) : Obj := k7 s_is_joined 1304 t242 1305 1306 419 1 896 897 898 899 900 1308 1309
noncomputable def z902 (P : Params) : Obj := k8 s_is_joined t242 p_WordRow_is_joined b_WordRow_is_joined e_Cursor_is_joined t18 1259 901
noncomputable def z903 (P : Params) : Obj := k11 s_at 1311 s_end 1312 s_words 1313
noncomputable def z904 (P : Params) : Obj := ⟨.type "dict",none,.dict ⟨[⟨PySem.PyData.keyHash P t176,.str t176 1268,.str t18 1259⟩,⟨PySem.PyData.keyHash P t178,.str t178 1272,.int 400 1271⟩,⟨PySem.PyData.keyHash P h_2,.str h_2 1281,.ref 874⟩,⟨PySem.PyData.keyHash P s_peek,.str s_peek 1288,.ref 881⟩,⟨PySem.PyData.keyHash P s_next,.str s_next 1296,.ref 888⟩,⟨PySem.PyData.keyHash P s_close_by_error,.str s_close_by_error 1303,.ref 895⟩,⟨PySem.PyData.keyHash P s_is_joined,.str s_is_joined 1310,.ref 902⟩,⟨PySem.PyData.keyHash P t179,.str t179 1314,.ref 903⟩,⟨PySem.PyData.keyHash P t195,.str t195 1316,.ref 906⟩,⟨PySem.PyData.keyHash P t181,.str t181 1318,.ref 907⟩,⟨PySem.PyData.keyHash P t22,.str t22 1319,.none⟩]⟩ 4,⟨[]⟩⟩
noncomputable def z905 (P : Params) : Obj := k20 s_WordRow 905 904 1261 1269
noncomputable def z906 (P : Params) : Obj := k21 1315 905
noncomputable def z907 (P : Params) : Obj := k15 1317 905
noncomputable def z908 (P : Params) : Obj := k16 905
noncomputable def z909 (P : Params) : Obj := k17 905
noncomputable def z910 (P : Params) : Obj := k1
noncomputable def z911 (P : Params) : Obj := k9
noncomputable def z912 (P : Params) : Obj := ⟨.type "dict",none,.dict ⟨[⟨PySem.PyData.keyHash P t176,.str t176 1331,.str t19 1322⟩,⟨PySem.PyData.keyHash P t177,.str t177 1333,.str s_Word 1332⟩,⟨PySem.PyData.keyHash P t178,.str t178 1335,.int 422 1334⟩,⟨PySem.PyData.keyHash P h_2,.str h_2 1348,.ref 924⟩,⟨PySem.PyData.keyHash P s_place,.str s_place 1355,.ref 931⟩,⟨PySem.PyData.keyHash P s_is_word,.str s_is_word 1364,.ref 938⟩,⟨PySem.PyData.keyHash P t179,.str t179 1371,.ref 939⟩]⟩ 7,⟨[]⟩⟩
noncomputable def z913 (P : Params) : Obj := k1
noncomputable def z914 (P : Params) : Obj := ⟨.none,none,.fields ⟨[.int 424 0,.int 4 0,.ref 923,.int 432 0,.int 4 0,.ref 930,.int 435 0,.int 4 0,.ref 937]⟩,⟨[]⟩⟩
noncomputable def z915 (P : Params) : Obj := k3 s_Word 1326 1327 1328 422 913 181 914 1329 1330
noncomputable def z916 (P : Params) : Obj := k4 915 912 t19 1322
noncomputable def z917 (P : Params) : Obj := ⟨.type "tuple",none,.seq ⟨[.none,.bool false]⟩ 0,⟨[]⟩⟩
noncomputable def z918 (P : Params) : Obj := k1
noncomputable def z919 (P : Params) : Obj := k2
noncomputable def z920 (P : Params) : Obj := ⟨.type "tuple",none,.seq ⟨[.str s_self 1339,.str s_kind 1340,.str s_text 1341,.str s_line 1342,.str s_column 1343,.str s_value 1344,.str s_is_first 1345]⟩ 0,⟨[]⟩⟩
noncomputable def z921 (P : Params) : Obj := k1
noncomputable def z922 (P : Params) : Obj := k6 h_2 t243 p_Wordd_initd b_Wordd_initd e_Wordd_initd
noncomputable def z923 (P : Params) : Obj := k7 h_2 1336 t243 1337 1338 424 7 918 919 920 921 922 1346 1347
noncomputable def z924 (P : Params) : Obj := k12 h_2 t243 p_Wordd_initd b_Wordd_initd e_Wordd_initd 917 t19 1322 923
noncomputable def z925 (P : Params) : Obj := k1
noncomputable def z926 (P : Params) : Obj := k2
noncomputable def z927 (P : Params) : Obj := k5 s_self 1352
noncomputable def z928 (P : Params) : Obj := k1
noncomputable def z929 (P : Params) : Obj := k6 s_place t244 p_Word_place b_Word_place e_Cursor_peek
noncomputable def z930 (P : Params) : Obj := k7 s_place 1349 t244 1350 1351 432 1 925 926 927 928 929 1353 1354
noncomputable def z931 (P : Params) : Obj := k8 s_place t244 p_Word_place b_Word_place e_Cursor_peek t19 1322 930
noncomputable def z932 (P : Params) : Obj := k1
noncomputable def z933 (P : Params) : Obj := k2
noncomputable def z934 (P : Params) : Obj := k11 s_self 1359 s_kind 1360 s_text 1361
noncomputable def z935 (P : Params) : Obj := k1
noncomputable def z936 (P : Params) : Obj := k6 s_is_word t245 p_Word_is_word b_Word_is_word e_Cursor_take
noncomputable def z937 (P : Params) : Obj := k7 s_is_word 1356 t245 1357 1358 435 3 932 933 934 935 936 1362 1363
noncomputable def z938 (P : Params) : Obj := k8 s_is_word t245 p_Word_is_word b_Word_is_word e_Cursor_take t19 1322 937
noncomputable def z939 (P : Params) : Obj := ⟨.type "tuple",none,.seq ⟨[.str s_column 1365,.str s_is_first 1366,.str s_kind 1367,.str s_line 1368,.str s_text 1369,.str s_value 1370]⟩ 0,⟨[]⟩⟩
noncomputable def z940 (P : Params) : Obj := ⟨.type "dict",none,.dict ⟨[⟨PySem.PyData.keyHash P t176,.str t176 1331,.str t19 1322⟩,⟨PySem.PyData.keyHash P t178,.str t178 1335,.int 422 1334⟩,⟨PySem.PyData.keyHash P h_2,.str h_2 1348,.ref 924⟩,⟨PySem.PyData.keyHash P s_place,.str s_place 1355,.ref 931⟩,⟨PySem.PyData.keyHash P s_is_word,.str s_is_word 1364,.ref 938⟩,⟨PySem.PyData.keyHash P t179,.str t179 1371,.ref 939⟩,⟨PySem.PyData.keyHash P t195,.str t195 1373,.ref 942⟩,⟨PySem.PyData.keyHash P t181,.str t181 1375,.ref 943⟩,⟨PySem.PyData.keyHash P t22,.str t22 1376,.none⟩]⟩ 4,⟨[]⟩⟩
noncomputable def z941 (P : Params) : Obj := k20 s_Word 941 940 1324 1332
noncomputable def z942 (P : Params) : Obj := k21 1372 941
noncomputable def z943 (P : Params) : Obj := k15 1374 941
noncomputable def z944 (P : Params) : Obj := k16 941
noncomputable def z945 (P : Params) : Obj := k17 941
noncomputable def z946 (P : Params) : Obj := k1
noncomputable def z947 (P : Params) : Obj := k2
noncomputable def z948 (P : Params) : Obj := k11 s_script 1384 s_k 1385 s_number 1386
noncomputable def z949 (P : Params) : Obj := k1
noncomputable def z950 (P : Params) : Obj := k6 l_brook l_brook p_x_law_brook b_x_law_brook e_x_law_brook
noncomputable def z951 (P : Params) : Obj := k7 l_brook 1381 l_brook 1382 1383 438 2 946 947 948 949 950 1387 1388
noncomputable def z952 (P : Params) : Obj := k8 l_brook l_brook p_x_law_brook b_x_law_brook e_x_law_brook s_law_pq0612_01 1379 951
noncomputable def z953 (P : Params) : Obj := k1
noncomputable def z954 (P : Params) : Obj := k2
noncomputable def z955 (P : Params) : Obj := k11 s_brook 1393 s_many 1394 s_got 1395
noncomputable def z956 (P : Params) : Obj := k1
noncomputable def z957 (P : Params) : Obj := k6 l_cup l_cup p_x_law_cup b_x_law_cup e_x_law_cup
noncomputable def z958 (P : Params) : Obj := k7 l_cup 1390 l_cup 1391 1392 441 2 953 954 955 956 957 1396 1397
noncomputable def z959 (P : Params) : Obj := k8 l_cup l_cup p_x_law_cup b_x_law_cup e_x_law_cup s_law_pq0612_01 1379 958
noncomputable def z960 (P : Params) : Obj := k1
noncomputable def z961 (P : Params) : Obj := k2
noncomputable def z962 (P : Params) : Obj := k5 s_text 1402
noncomputable def z963 (P : Params) : Obj := k1
noncomputable def z964 (P : Params) : Obj := k6 l_sign l_sign p_x_law_sign b_x_law_sign e_x_law_sign
noncomputable def z965 (P : Params) : Obj := k7 l_sign 1399 l_sign 1400 1401 446 1 960 961 962 963 964 1403 1404
noncomputable def z966 (P : Params) : Obj := k8 l_sign l_sign p_x_law_sign b_x_law_sign e_x_law_sign s_law_pq0612_01 1379 965
noncomputable def z967 (P : Params) : Obj := k1
noncomputable def z968 (P : Params) : Obj := k2
noncomputable def z969 (P : Params) : Obj := k19 s_value 1409 s_size 1410 s_words 1411 s_items 1412
noncomputable def z970 (P : Params) : Obj := k1
noncomputable def z971 (P : Params) : Obj := k6 l_number l_number p_x_law_number b_x_law_number e_x_law_number
noncomputable def z972 (P : Params) : Obj := k7 l_number 1406 l_number 1407 1408 448 1 967 968 969 970 971 1413 1414
noncomputable def z973 (P : Params) : Obj := k8 l_number l_number p_x_law_number b_x_law_number e_x_law_number s_law_pq0612_01 1379 972
noncomputable def z974 (P : Params) : Obj := k1
noncomputable def z975 (P : Params) : Obj := k2
noncomputable def z976 (P : Params) : Obj := k11 s_brook 1419 s_way 1420 s_words 1421
noncomputable def z977 (P : Params) : Obj := k1
noncomputable def z978 (P : Params) : Obj := k6 l_operator l_operator p_x_law_operator b_x_law_operator e_x_law_operator
noncomputable def z979 (P : Params) : Obj := k7 l_operator 1416 l_operator 1417 1418 453 1 974 975 976 977 978 1422 1423
noncomputable def z980 (P : Params) : Obj := k8 l_operator l_operator p_x_law_operator b_x_law_operator e_x_law_operator s_law_pq0612_01 1379 979
noncomputable def z981 (P : Params) : Obj := k1
noncomputable def z982 (P : Params) : Obj := k2
noncomputable def z983 (P : Params) : Obj := k5 s_told 1428
noncomputable def z984 (P : Params) : Obj := k1
noncomputable def z985 (P : Params) : Obj := k6 l_whole l_whole p_x_law_whole b_x_law_whole e_x_law_whole
noncomputable def z986 (P : Params) : Obj := k7 l_whole 1425 l_whole 1426 1427 463 1 981 982 983 984 985 1429 1430
noncomputable def z987 (P : Params) : Obj := k8 l_whole l_whole p_x_law_whole b_x_law_whole e_x_law_whole s_law_pq0612_01 1379 986
noncomputable def z988 (P : Params) : Obj := k1
noncomputable def z989 (P : Params) : Obj := k2
noncomputable def z990 (P : Params) : Obj := ⟨.type "tuple",none,.seq ⟨[.str s_brook 1435,.str s_deep 1436,.str s_begin 1437,.str s_end 1438,.str s_least_many 1439,.str s_words 1440,.str s_rows 1441,.str s_found 1442,.str s_at 1443,.str s_told 1444]⟩ 0,⟨[]⟩⟩
noncomputable def z991 (P : Params) : Obj := k1
noncomputable def z992 (P : Params) : Obj := k6 l_listed l_listed p_x_law_listed b_x_law_listed e_x_law_listed
noncomputable def z993 (P : Params) : Obj := k7 l_listed 1432 l_listed 1433 1434 465 5 988 989 990 991 992 1445 1446
noncomputable def z994 (P : Params) : Obj := k8 l_listed l_listed p_x_law_listed b_x_law_listed e_x_law_listed s_law_pq0612_01 1379 993
noncomputable def z995 (P : Params) : Obj := k1
noncomputable def z996 (P : Params) : Obj := k2
noncomputable def z997 (P : Params) : Obj := ⟨.type "tuple",none,.seq ⟨[.str s_brook 1451,.str s_deep 1452,.str s_way 1453,.str s_name 1454,.str s_told 1455,.str s_mark 1456,.str s_head 1457,.str s_row 1458,.str s_node 1459,.str s_words 1460,.str s_rows 1461,.str s_found 1462]⟩ 0,⟨[]⟩⟩
noncomputable def z998 (P : Params) : Obj := k1
noncomputable def z999 (P : Params) : Obj := k6 l_atom l_atom p_x_law_atom b_x_law_atom e_x_law_atom
noncomputable def z1000 (P : Params) : Obj := k7 l_atom 1448 l_atom 1449 1450 473 2 995 996 997 998 999 1463 1464
noncomputable def z1001 (P : Params) : Obj := k8 l_atom l_atom p_x_law_atom b_x_law_atom e_x_law_atom s_law_pq0612_01 1379 1000
noncomputable def z1002 (P : Params) : Obj := k1
noncomputable def z1003 (P : Params) : Obj := k2
noncomputable def z1004 (P : Params) : Obj := ⟨.type "tuple",none,.seq ⟨[.str s_brook 1469,.str s_deep 1470,.str s_way 1471,.str s_told 1472,.str s_words 1473,.str s_name 1474,.str s_rows 1475,.str s_node 1476,.str s_turn 1477]⟩ 0,⟨[]⟩⟩
noncomputable def z1005 (P : Params) : Obj := k1
noncomputable def z1006 (P : Params) : Obj := k6 l_part l_part p_x_law_part b_x_law_part e_x_law_part
noncomputable def z1007 (P : Params) : Obj := k7 l_part 1466 l_part 1467 1468 502 2 1002 1003 1004 1005 1006 1478 1479
noncomputable def z1008 (P : Params) : Obj := k8 l_part l_part p_x_law_part b_x_law_part e_x_law_part s_law_pq0612_01 1379 1007
noncomputable def z1009 (P : Params) : Obj := k1
noncomputable def z1010 (P : Params) : Obj := k2
noncomputable def z1011 (P : Params) : Obj := ⟨.type "tuple",none,.seq ⟨[.str s_brook 1484,.str s_deep 1485,.str s_words 1486,.str s_row 1487,.str s_items 1488,.str s_rows 1489,.str s_turn 1490,.str s_sign 1491,.str s_part 1492]⟩ 0,⟨[]⟩⟩
noncomputable def z1012 (P : Params) : Obj := k1
noncomputable def z1013 (P : Params) : Obj := k6 l_pattern l_pattern p_x_law_pattern b_x_law_pattern e_x_law_pattern
noncomputable def z1014 (P : Params) : Obj := k7 l_pattern 1481 l_pattern 1482 1483 519 2 1009 1010 1011 1012 1013 1493 1494
noncomputable def z1015 (P : Params) : Obj := k8 l_pattern l_pattern p_x_law_pattern b_x_law_pattern e_x_law_pattern s_law_pq0612_01 1379 1014
noncomputable def z1016 (P : Params) : Obj := k1
noncomputable def z1017 (P : Params) : Obj := k2
noncomputable def z1018 (P : Params) : Obj := k11 s_words 1499 s_row_here 1500 s_told 1501
noncomputable def z1019 (P : Params) : Obj := k1
noncomputable def z1020 (P : Params) : Obj := k6 l_read l_read p_x_law_read b_x_law_read e_x_law_read
noncomputable def z1021 (P : Params) : Obj := k7 l_read 1496 l_read 1497 1498 526 1 1016 1017 1018 1019 1020 1502 1503
noncomputable def z1022 (P : Params) : Obj := k8 l_read l_read p_x_law_read b_x_law_read e_x_law_read s_law_pq0612_01 1379 1021
noncomputable def z1023 (P : Params) : Obj := k1
noncomputable def z1024 (P : Params) : Obj := k2
noncomputable def z1025 (P : Params) : Obj := k5 s_expression 1508
noncomputable def z1026 (P : Params) : Obj := k1
noncomputable def z1027 (P : Params) : Obj := k6 l_turned l_turned p_x_law_turned b_x_law_turned e_x_law_turned
noncomputable def z1028 (P : Params) : Obj := k7 l_turned 1505 l_turned 1506 1507 533 1 1023 1024 1025 1026 1027 1509 1510
noncomputable def z1029 (P : Params) : Obj := k8 l_turned l_turned p_x_law_turned b_x_law_turned e_x_law_turned s_law_pq0612_01 1379 1028
noncomputable def z1030 (P : Params) : Obj := k1
noncomputable def z1031 (P : Params) : Obj := k2
noncomputable def z1032 (P : Params) : Obj := k6 l_fixed_right l_fixed_right p_x_law_fixed_right b_x_law_fixed_right e_x_law_fixed_right
noncomputable def z1033 (P : Params) : Obj := k22 l_fixed_right 1512 1513 1514 538 0 1030 1031 1032 1515 1516
noncomputable def z1034 (P : Params) : Obj := k8 l_fixed_right l_fixed_right p_x_law_fixed_right b_x_law_fixed_right e_x_law_fixed_right s_law_pq0612_01 1379 1033
noncomputable def z1035 (P : Params) : Obj := k1
noncomputable def z1036 (P : Params) : Obj := k2
noncomputable def z1037 (P : Params) : Obj := ⟨.type "tuple",none,.seq ⟨[.str s_script 1521,.str s_k 1522,.str s_brook 1523,.str s_words 1524,.str s_row 1525,.str s_items 1526]⟩ 0,⟨[]⟩⟩
noncomputable def z1038 (P : Params) : Obj := k1
noncomputable def z1039 (P : Params) : Obj := k6 s_law s_law p_law b_law e_law
noncomputable def z1040 (P : Params) : Obj := k7 s_law 1518 s_law 1519 1520 556 1 1035 1036 1037 1038 1039 1527 1528
noncomputable def z1041 (P : Params) : Obj := k8 s_law s_law p_law b_law e_law s_law_pq0612_01 1379 1040
noncomputable def q32o31 (P : Params) : BT := .node (z31 P) (.node (z63 P) (.node (z127 P) (.node (z255 P) (.node (z511 P) (.node (z1023 P) .nil .nil) .nil) (.node (z767 P) .nil .nil)) (.node (z383 P) (.node (z639 P) .nil .nil) (.node (z895 P) .nil .nil))) (.node (z191 P) (.node (z319 P) (.node (z575 P) .nil .nil) (.node (z831 P) .nil .nil)) (.node (z447 P) (.node (z703 P) .nil .nil) (.node (z959 P) .nil .nil)))) (.node (z95 P) (.node (z159 P) (.node (z287 P) (.node (z543 P) .nil .nil) (.node (z799 P) .nil .nil)) (.node (z415 P) (.node (z671 P) .nil .nil) (.node (z927 P) .nil .nil))) (.node (z223 P) (.node (z351 P) (.node (z607 P) .nil .nil) (.node (z863 P) .nil .nil)) (.node (z479 P) (.node (z735 P) .nil .nil) (.node (z991 P) .nil .nil))))
noncomputable def q32o47 (P : Params) : BT := .node (z47 P) (.node (z79 P) (.node (z143 P) (.node (z271 P) (.node (z527 P) (.node (z1039 P) .nil .nil) .nil) (.node (z783 P) .nil .nil)) (.node (z399 P) (.node (z655 P) .nil .nil) (.node (z911 P) .nil .nil))) (.node (z207 P) (.node (z335 P) (.node (z591 P) .nil .nil) (.node (z847 P) .nil .nil)) (.node (z463 P) (.node (z719 P) .nil .nil) (.node (z975 P) .nil .nil)))) (.node (z111 P) (.node (z175 P) (.node (z303 P) (.node (z559 P) .nil .nil) (.node (z815 P) .nil .nil)) (.node (z431 P) (.node (z687 P) .nil .nil) (.node (z943 P) .nil .nil))) (.node (z239 P) (.node (z367 P) (.node (z623 P) .nil .nil) (.node (z879 P) .nil .nil)) (.node (z495 P) (.node (z751 P) .nil .nil) (.node (z1007 P) .nil .nil))))
noncomputable def q32o39 (P : Params) : BT := .node (z39 P) (.node (z71 P) (.node (z135 P) (.node (z263 P) (.node (z519 P) (.node (z1031 P) .nil .nil) .nil) (.node (z775 P) .nil .nil)) (.node (z391 P) (.node (z647 P) .nil .nil) (.node (z903 P) .nil .nil))) (.node (z199 P) (.node (z327 P) (.node (z583 P) .nil .nil) (.node (z839 P) .nil .nil)) (.node (z455 P) (.node (z711 P) .nil .nil) (.node (z967 P) .nil .nil)))) (.node (z103 P) (.node (z167 P) (.node (z295 P) (.node (z551 P) .nil .nil) (.node (z807 P) .nil .nil)) (.node (z423 P) (.node (z679 P) .nil .nil) (.node (z935 P) .nil .nil))) (.node (z231 P) (.node (z359 P) (.node (z615 P) .nil .nil) (.node (z871 P) .nil .nil)) (.node (z487 P) (.node (z743 P) .nil .nil) (.node (z999 P) .nil .nil))))
noncomputable def q32o55 (P : Params) : BT := .node (z55 P) (.node (z87 P) (.node (z151 P) (.node (z279 P) (.node (z535 P) .nil .nil) (.node (z791 P) .nil .nil)) (.node (z407 P) (.node (z663 P) .nil .nil) (.node (z919 P) .nil .nil))) (.node (z215 P) (.node (z343 P) (.node (z599 P) .nil .nil) (.node (z855 P) .nil .nil)) (.node (z471 P) (.node (z727 P) .nil .nil) (.node (z983 P) .nil .nil)))) (.node (z119 P) (.node (z183 P) (.node (z311 P) (.node (z567 P) .nil .nil) (.node (z823 P) .nil .nil)) (.node (z439 P) (.node (z695 P) .nil .nil) (.node (z951 P) .nil .nil))) (.node (z247 P) (.node (z375 P) (.node (z631 P) .nil .nil) (.node (z887 P) .nil .nil)) (.node (z503 P) (.node (z759 P) .nil .nil) (.node (z1015 P) .nil .nil))))
noncomputable def q32o35 (P : Params) : BT := .node (z35 P) (.node (z67 P) (.node (z131 P) (.node (z259 P) (.node (z515 P) (.node (z1027 P) .nil .nil) .nil) (.node (z771 P) .nil .nil)) (.node (z387 P) (.node (z643 P) .nil .nil) (.node (z899 P) .nil .nil))) (.node (z195 P) (.node (z323 P) (.node (z579 P) .nil .nil) (.node (z835 P) .nil .nil)) (.node (z451 P) (.node (z707 P) .nil .nil) (.node (z963 P) .nil .nil)))) (.node (z99 P) (.node (z163 P) (.node (z291 P) (.node (z547 P) .nil .nil) (.node (z803 P) .nil .nil)) (.node (z419 P) (.node (z675 P) .nil .nil) (.node (z931 P) .nil .nil))) (.node (z227 P) (.node (z355 P) (.node (z611 P) .nil .nil) (.node (z867 P) .nil .nil)) (.node (z483 P) (.node (z739 P) .nil .nil) (.node (z995 P) .nil .nil))))
noncomputable def q32o51 (P : Params) : BT := .node (z51 P) (.node (z83 P) (.node (z147 P) (.node (z275 P) (.node (z531 P) .nil .nil) (.node (z787 P) .nil .nil)) (.node (z403 P) (.node (z659 P) .nil .nil) (.node (z915 P) .nil .nil))) (.node (z211 P) (.node (z339 P) (.node (z595 P) .nil .nil) (.node (z851 P) .nil .nil)) (.node (z467 P) (.node (z723 P) .nil .nil) (.node (z979 P) .nil .nil)))) (.node (z115 P) (.node (z179 P) (.node (z307 P) (.node (z563 P) .nil .nil) (.node (z819 P) .nil .nil)) (.node (z435 P) (.node (z691 P) .nil .nil) (.node (z947 P) .nil .nil))) (.node (z243 P) (.node (z371 P) (.node (z627 P) .nil .nil) (.node (z883 P) .nil .nil)) (.node (z499 P) (.node (z755 P) .nil .nil) (.node (z1011 P) .nil .nil))))
noncomputable def q32o43 (P : Params) : BT := .node (z43 P) (.node (z75 P) (.node (z139 P) (.node (z267 P) (.node (z523 P) (.node (z1035 P) .nil .nil) .nil) (.node (z779 P) .nil .nil)) (.node (z395 P) (.node (z651 P) .nil .nil) (.node (z907 P) .nil .nil))) (.node (z203 P) (.node (z331 P) (.node (z587 P) .nil .nil) (.node (z843 P) .nil .nil)) (.node (z459 P) (.node (z715 P) .nil .nil) (.node (z971 P) .nil .nil)))) (.node (z107 P) (.node (z171 P) (.node (z299 P) (.node (z555 P) .nil .nil) (.node (z811 P) .nil .nil)) (.node (z427 P) (.node (z683 P) .nil .nil) (.node (z939 P) .nil .nil))) (.node (z235 P) (.node (z363 P) (.node (z619 P) .nil .nil) (.node (z875 P) .nil .nil)) (.node (z491 P) (.node (z747 P) .nil .nil) (.node (z1003 P) .nil .nil))))
noncomputable def q32o59 (P : Params) : BT := .node (z59 P) (.node (z91 P) (.node (z155 P) (.node (z283 P) (.node (z539 P) .nil .nil) (.node (z795 P) .nil .nil)) (.node (z411 P) (.node (z667 P) .nil .nil) (.node (z923 P) .nil .nil))) (.node (z219 P) (.node (z347 P) (.node (z603 P) .nil .nil) (.node (z859 P) .nil .nil)) (.node (z475 P) (.node (z731 P) .nil .nil) (.node (z987 P) .nil .nil)))) (.node (z123 P) (.node (z187 P) (.node (z315 P) (.node (z571 P) .nil .nil) (.node (z827 P) .nil .nil)) (.node (z443 P) (.node (z699 P) .nil .nil) (.node (z955 P) .nil .nil))) (.node (z251 P) (.node (z379 P) (.node (z635 P) .nil .nil) (.node (z891 P) .nil .nil)) (.node (z507 P) (.node (z763 P) .nil .nil) (.node (z1019 P) .nil .nil))))
noncomputable def q32o33 (P : Params) : BT := .node (z33 P) (.node (z65 P) (.node (z129 P) (.node (z257 P) (.node (z513 P) (.node (z1025 P) .nil .nil) .nil) (.node (z769 P) .nil .nil)) (.node (z385 P) (.node (z641 P) .nil .nil) (.node (z897 P) .nil .nil))) (.node (z193 P) (.node (z321 P) (.node (z577 P) .nil .nil) (.node (z833 P) .nil .nil)) (.node (z449 P) (.node (z705 P) .nil .nil) (.node (z961 P) .nil .nil)))) (.node (z97 P) (.node (z161 P) (.node (z289 P) (.node (z545 P) .nil .nil) (.node (z801 P) .nil .nil)) (.node (z417 P) (.node (z673 P) .nil .nil) (.node (z929 P) .nil .nil))) (.node (z225 P) (.node (z353 P) (.node (z609 P) .nil .nil) (.node (z865 P) .nil .nil)) (.node (z481 P) (.node (z737 P) .nil .nil) (.node (z993 P) .nil .nil))))
noncomputable def q32o49 (P : Params) : BT := .node (z49 P) (.node (z81 P) (.node (z145 P) (.node (z273 P) (.node (z529 P) (.node (z1041 P) .nil .nil) .nil) (.node (z785 P) .nil .nil)) (.node (z401 P) (.node (z657 P) .nil .nil) (.node (z913 P) .nil .nil))) (.node (z209 P) (.node (z337 P) (.node (z593 P) .nil .nil) (.node (z849 P) .nil .nil)) (.node (z465 P) (.node (z721 P) .nil .nil) (.node (z977 P) .nil .nil)))) (.node (z113 P) (.node (z177 P) (.node (z305 P) (.node (z561 P) .nil .nil) (.node (z817 P) .nil .nil)) (.node (z433 P) (.node (z689 P) .nil .nil) (.node (z945 P) .nil .nil))) (.node (z241 P) (.node (z369 P) (.node (z625 P) .nil .nil) (.node (z881 P) .nil .nil)) (.node (z497 P) (.node (z753 P) .nil .nil) (.node (z1009 P) .nil .nil))))
noncomputable def q32o41 (P : Params) : BT := .node (z41 P) (.node (z73 P) (.node (z137 P) (.node (z265 P) (.node (z521 P) (.node (z1033 P) .nil .nil) .nil) (.node (z777 P) .nil .nil)) (.node (z393 P) (.node (z649 P) .nil .nil) (.node (z905 P) .nil .nil))) (.node (z201 P) (.node (z329 P) (.node (z585 P) .nil .nil) (.node (z841 P) .nil .nil)) (.node (z457 P) (.node (z713 P) .nil .nil) (.node (z969 P) .nil .nil)))) (.node (z105 P) (.node (z169 P) (.node (z297 P) (.node (z553 P) .nil .nil) (.node (z809 P) .nil .nil)) (.node (z425 P) (.node (z681 P) .nil .nil) (.node (z937 P) .nil .nil))) (.node (z233 P) (.node (z361 P) (.node (z617 P) .nil .nil) (.node (z873 P) .nil .nil)) (.node (z489 P) (.node (z745 P) .nil .nil) (.node (z1001 P) .nil .nil))))
noncomputable def q32o57 (P : Params) : BT := .node (z57 P) (.node (z89 P) (.node (z153 P) (.node (z281 P) (.node (z537 P) .nil .nil) (.node (z793 P) .nil .nil)) (.node (z409 P) (.node (z665 P) .nil .nil) (.node (z921 P) .nil .nil))) (.node (z217 P) (.node (z345 P) (.node (z601 P) .nil .nil) (.node (z857 P) .nil .nil)) (.node (z473 P) (.node (z729 P) .nil .nil) (.node (z985 P) .nil .nil)))) (.node (z121 P) (.node (z185 P) (.node (z313 P) (.node (z569 P) .nil .nil) (.node (z825 P) .nil .nil)) (.node (z441 P) (.node (z697 P) .nil .nil) (.node (z953 P) .nil .nil))) (.node (z249 P) (.node (z377 P) (.node (z633 P) .nil .nil) (.node (z889 P) .nil .nil)) (.node (z505 P) (.node (z761 P) .nil .nil) (.node (z1017 P) .nil .nil))))
noncomputable def q32o37 (P : Params) : BT := .node (z37 P) (.node (z69 P) (.node (z133 P) (.node (z261 P) (.node (z517 P) (.node (z1029 P) .nil .nil) .nil) (.node (z773 P) .nil .nil)) (.node (z389 P) (.node (z645 P) .nil .nil) (.node (z901 P) .nil .nil))) (.node (z197 P) (.node (z325 P) (.node (z581 P) .nil .nil) (.node (z837 P) .nil .nil)) (.node (z453 P) (.node (z709 P) .nil .nil) (.node (z965 P) .nil .nil)))) (.node (z101 P) (.node (z165 P) (.node (z293 P) (.node (z549 P) .nil .nil) (.node (z805 P) .nil .nil)) (.node (z421 P) (.node (z677 P) .nil .nil) (.node (z933 P) .nil .nil))) (.node (z229 P) (.node (z357 P) (.node (z613 P) .nil .nil) (.node (z869 P) .nil .nil)) (.node (z485 P) (.node (z741 P) .nil .nil) (.node (z997 P) .nil .nil))))
noncomputable def q32o53 (P : Params) : BT := .node (z53 P) (.node (z85 P) (.node (z149 P) (.node (z277 P) (.node (z533 P) .nil .nil) (.node (z789 P) .nil .nil)) (.node (z405 P) (.node (z661 P) .nil .nil) (.node (z917 P) .nil .nil))) (.node (z213 P) (.node (z341 P) (.node (z597 P) .nil .nil) (.node (z853 P) .nil .nil)) (.node (z469 P) (.node (z725 P) .nil .nil) (.node (z981 P) .nil .nil)))) (.node (z117 P) (.node (z181 P) (.node (z309 P) (.node (z565 P) .nil .nil) (.node (z821 P) .nil .nil)) (.node (z437 P) (.node (z693 P) .nil .nil) (.node (z949 P) .nil .nil))) (.node (z245 P) (.node (z373 P) (.node (z629 P) .nil .nil) (.node (z885 P) .nil .nil)) (.node (z501 P) (.node (z757 P) .nil .nil) (.node (z1013 P) .nil .nil))))
noncomputable def q32o45 (P : Params) : BT := .node (z45 P) (.node (z77 P) (.node (z141 P) (.node (z269 P) (.node (z525 P) (.node (z1037 P) .nil .nil) .nil) (.node (z781 P) .nil .nil)) (.node (z397 P) (.node (z653 P) .nil .nil) (.node (z909 P) .nil .nil))) (.node (z205 P) (.node (z333 P) (.node (z589 P) .nil .nil) (.node (z845 P) .nil .nil)) (.node (z461 P) (.node (z717 P) .nil .nil) (.node (z973 P) .nil .nil)))) (.node (z109 P) (.node (z173 P) (.node (z301 P) (.node (z557 P) .nil .nil) (.node (z813 P) .nil .nil)) (.node (z429 P) (.node (z685 P) .nil .nil) (.node (z941 P) .nil .nil))) (.node (z237 P) (.node (z365 P) (.node (z621 P) .nil .nil) (.node (z877 P) .nil .nil)) (.node (z493 P) (.node (z749 P) .nil .nil) (.node (z1005 P) .nil .nil))))
noncomputable def q32o61 (P : Params) : BT := .node (z61 P) (.node (z93 P) (.node (z157 P) (.node (z285 P) (.node (z541 P) .nil .nil) (.node (z797 P) .nil .nil)) (.node (z413 P) (.node (z669 P) .nil .nil) (.node (z925 P) .nil .nil))) (.node (z221 P) (.node (z349 P) (.node (z605 P) .nil .nil) (.node (z861 P) .nil .nil)) (.node (z477 P) (.node (z733 P) .nil .nil) (.node (z989 P) .nil .nil)))) (.node (z125 P) (.node (z189 P) (.node (z317 P) (.node (z573 P) .nil .nil) (.node (z829 P) .nil .nil)) (.node (z445 P) (.node (z701 P) .nil .nil) (.node (z957 P) .nil .nil))) (.node (z253 P) (.node (z381 P) (.node (z637 P) .nil .nil) (.node (z893 P) .nil .nil)) (.node (z509 P) (.node (z765 P) .nil .nil) (.node (z1021 P) .nil .nil))))
noncomputable def q32o32 (P : Params) : BT := .node (z32 P) (.node (z64 P) (.node (z128 P) (.node (z256 P) (.node (z512 P) (.node (z1024 P) .nil .nil) .nil) (.node (z768 P) .nil .nil)) (.node (z384 P) (.node (z640 P) .nil .nil) (.node (z896 P) .nil .nil))) (.node (z192 P) (.node (z320 P) (.node (z576 P) .nil .nil) (.node (z832 P) .nil .nil)) (.node (z448 P) (.node (z704 P) .nil .nil) (.node (z960 P) .nil .nil)))) (.node (z96 P) (.node (z160 P) (.node (z288 P) (.node (z544 P) .nil .nil) (.node (z800 P) .nil .nil)) (.node (z416 P) (.node (z672 P) .nil .nil) (.node (z928 P) .nil .nil))) (.node (z224 P) (.node (z352 P) (.node (z608 P) .nil .nil) (.node (z864 P) .nil .nil)) (.node (z480 P) (.node (z736 P) .nil .nil) (.node (z992 P) .nil .nil))))
noncomputable def q32o48 (P : Params) : BT := .node (z48 P) (.node (z80 P) (.node (z144 P) (.node (z272 P) (.node (z528 P) (.node (z1040 P) .nil .nil) .nil) (.node (z784 P) .nil .nil)) (.node (z400 P) (.node (z656 P) .nil .nil) (.node (z912 P) .nil .nil))) (.node (z208 P) (.node (z336 P) (.node (z592 P) .nil .nil) (.node (z848 P) .nil .nil)) (.node (z464 P) (.node (z720 P) .nil .nil) (.node (z976 P) .nil .nil)))) (.node (z112 P) (.node (z176 P) (.node (z304 P) (.node (z560 P) .nil .nil) (.node (z816 P) .nil .nil)) (.node (z432 P) (.node (z688 P) .nil .nil) (.node (z944 P) .nil .nil))) (.node (z240 P) (.node (z368 P) (.node (z624 P) .nil .nil) (.node (z880 P) .nil .nil)) (.node (z496 P) (.node (z752 P) .nil .nil) (.node (z1008 P) .nil .nil))))
noncomputable def q32o40 (P : Params) : BT := .node (z40 P) (.node (z72 P) (.node (z136 P) (.node (z264 P) (.node (z520 P) (.node (z1032 P) .nil .nil) .nil) (.node (z776 P) .nil .nil)) (.node (z392 P) (.node (z648 P) .nil .nil) (.node (z904 P) .nil .nil))) (.node (z200 P) (.node (z328 P) (.node (z584 P) .nil .nil) (.node (z840 P) .nil .nil)) (.node (z456 P) (.node (z712 P) .nil .nil) (.node (z968 P) .nil .nil)))) (.node (z104 P) (.node (z168 P) (.node (z296 P) (.node (z552 P) .nil .nil) (.node (z808 P) .nil .nil)) (.node (z424 P) (.node (z680 P) .nil .nil) (.node (z936 P) .nil .nil))) (.node (z232 P) (.node (z360 P) (.node (z616 P) .nil .nil) (.node (z872 P) .nil .nil)) (.node (z488 P) (.node (z744 P) .nil .nil) (.node (z1000 P) .nil .nil))))
noncomputable def q32o56 (P : Params) : BT := .node (z56 P) (.node (z88 P) (.node (z152 P) (.node (z280 P) (.node (z536 P) .nil .nil) (.node (z792 P) .nil .nil)) (.node (z408 P) (.node (z664 P) .nil .nil) (.node (z920 P) .nil .nil))) (.node (z216 P) (.node (z344 P) (.node (z600 P) .nil .nil) (.node (z856 P) .nil .nil)) (.node (z472 P) (.node (z728 P) .nil .nil) (.node (z984 P) .nil .nil)))) (.node (z120 P) (.node (z184 P) (.node (z312 P) (.node (z568 P) .nil .nil) (.node (z824 P) .nil .nil)) (.node (z440 P) (.node (z696 P) .nil .nil) (.node (z952 P) .nil .nil))) (.node (z248 P) (.node (z376 P) (.node (z632 P) .nil .nil) (.node (z888 P) .nil .nil)) (.node (z504 P) (.node (z760 P) .nil .nil) (.node (z1016 P) .nil .nil))))
noncomputable def q32o36 (P : Params) : BT := .node (z36 P) (.node (z68 P) (.node (z132 P) (.node (z260 P) (.node (z516 P) (.node (z1028 P) .nil .nil) .nil) (.node (z772 P) .nil .nil)) (.node (z388 P) (.node (z644 P) .nil .nil) (.node (z900 P) .nil .nil))) (.node (z196 P) (.node (z324 P) (.node (z580 P) .nil .nil) (.node (z836 P) .nil .nil)) (.node (z452 P) (.node (z708 P) .nil .nil) (.node (z964 P) .nil .nil)))) (.node (z100 P) (.node (z164 P) (.node (z292 P) (.node (z548 P) .nil .nil) (.node (z804 P) .nil .nil)) (.node (z420 P) (.node (z676 P) .nil .nil) (.node (z932 P) .nil .nil))) (.node (z228 P) (.node (z356 P) (.node (z612 P) .nil .nil) (.node (z868 P) .nil .nil)) (.node (z484 P) (.node (z740 P) .nil .nil) (.node (z996 P) .nil .nil))))
noncomputable def q32o52 (P : Params) : BT := .node (z52 P) (.node (z84 P) (.node (z148 P) (.node (z276 P) (.node (z532 P) .nil .nil) (.node (z788 P) .nil .nil)) (.node (z404 P) (.node (z660 P) .nil .nil) (.node (z916 P) .nil .nil))) (.node (z212 P) (.node (z340 P) (.node (z596 P) .nil .nil) (.node (z852 P) .nil .nil)) (.node (z468 P) (.node (z724 P) .nil .nil) (.node (z980 P) .nil .nil)))) (.node (z116 P) (.node (z180 P) (.node (z308 P) (.node (z564 P) .nil .nil) (.node (z820 P) .nil .nil)) (.node (z436 P) (.node (z692 P) .nil .nil) (.node (z948 P) .nil .nil))) (.node (z244 P) (.node (z372 P) (.node (z628 P) .nil .nil) (.node (z884 P) .nil .nil)) (.node (z500 P) (.node (z756 P) .nil .nil) (.node (z1012 P) .nil .nil))))
noncomputable def q32o44 (P : Params) : BT := .node (z44 P) (.node (z76 P) (.node (z140 P) (.node (z268 P) (.node (z524 P) (.node (z1036 P) .nil .nil) .nil) (.node (z780 P) .nil .nil)) (.node (z396 P) (.node (z652 P) .nil .nil) (.node (z908 P) .nil .nil))) (.node (z204 P) (.node (z332 P) (.node (z588 P) .nil .nil) (.node (z844 P) .nil .nil)) (.node (z460 P) (.node (z716 P) .nil .nil) (.node (z972 P) .nil .nil)))) (.node (z108 P) (.node (z172 P) (.node (z300 P) (.node (z556 P) .nil .nil) (.node (z812 P) .nil .nil)) (.node (z428 P) (.node (z684 P) .nil .nil) (.node (z940 P) .nil .nil))) (.node (z236 P) (.node (z364 P) (.node (z620 P) .nil .nil) (.node (z876 P) .nil .nil)) (.node (z492 P) (.node (z748 P) .nil .nil) (.node (z1004 P) .nil .nil))))
noncomputable def q32o60 (P : Params) : BT := .node (z60 P) (.node (z92 P) (.node (z156 P) (.node (z284 P) (.node (z540 P) .nil .nil) (.node (z796 P) .nil .nil)) (.node (z412 P) (.node (z668 P) .nil .nil) (.node (z924 P) .nil .nil))) (.node (z220 P) (.node (z348 P) (.node (z604 P) .nil .nil) (.node (z860 P) .nil .nil)) (.node (z476 P) (.node (z732 P) .nil .nil) (.node (z988 P) .nil .nil)))) (.node (z124 P) (.node (z188 P) (.node (z316 P) (.node (z572 P) .nil .nil) (.node (z828 P) .nil .nil)) (.node (z444 P) (.node (z700 P) .nil .nil) (.node (z956 P) .nil .nil))) (.node (z252 P) (.node (z380 P) (.node (z636 P) .nil .nil) (.node (z892 P) .nil .nil)) (.node (z508 P) (.node (z764 P) .nil .nil) (.node (z1020 P) .nil .nil))))
noncomputable def q32o34 (P : Params) : BT := .node (z34 P) (.node (z66 P) (.node (z130 P) (.node (z258 P) (.node (z514 P) (.node (z1026 P) .nil .nil) .nil) (.node (z770 P) .nil .nil)) (.node (z386 P) (.node (z642 P) .nil .nil) (.node (z898 P) .nil .nil))) (.node (z194 P) (.node (z322 P) (.node (z578 P) .nil .nil) (.node (z834 P) .nil .nil)) (.node (z450 P) (.node (z706 P) .nil .nil) (.node (z962 P) .nil .nil)))) (.node (z98 P) (.node (z162 P) (.node (z290 P) (.node (z546 P) .nil .nil) (.node (z802 P) .nil .nil)) (.node (z418 P) (.node (z674 P) .nil .nil) (.node (z930 P) .nil .nil))) (.node (z226 P) (.node (z354 P) (.node (z610 P) .nil .nil) (.node (z866 P) .nil .nil)) (.node (z482 P) (.node (z738 P) .nil .nil) (.node (z994 P) .nil .nil))))
noncomputable def q32o50 (P : Params) : BT := .node (z50 P) (.node (z82 P) (.node (z146 P) (.node (z274 P) (.node (z530 P) .nil .nil) (.node (z786 P) .nil .nil)) (.node (z402 P) (.node (z658 P) .nil .nil) (.node (z914 P) .nil .nil))) (.node (z210 P) (.node (z338 P) (.node (z594 P) .nil .nil) (.node (z850 P) .nil .nil)) (.node (z466 P) (.node (z722 P) .nil .nil) (.node (z978 P) .nil .nil)))) (.node (z114 P) (.node (z178 P) (.node (z306 P) (.node (z562 P) .nil .nil) (.node (z818 P) .nil .nil)) (.node (z434 P) (.node (z690 P) .nil .nil) (.node (z946 P) .nil .nil))) (.node (z242 P) (.node (z370 P) (.node (z626 P) .nil .nil) (.node (z882 P) .nil .nil)) (.node (z498 P) (.node (z754 P) .nil .nil) (.node (z1010 P) .nil .nil))))
noncomputable def q32o42 (P : Params) : BT := .node (z42 P) (.node (z74 P) (.node (z138 P) (.node (z266 P) (.node (z522 P) (.node (z1034 P) .nil .nil) .nil) (.node (z778 P) .nil .nil)) (.node (z394 P) (.node (z650 P) .nil .nil) (.node (z906 P) .nil .nil))) (.node (z202 P) (.node (z330 P) (.node (z586 P) .nil .nil) (.node (z842 P) .nil .nil)) (.node (z458 P) (.node (z714 P) .nil .nil) (.node (z970 P) .nil .nil)))) (.node (z106 P) (.node (z170 P) (.node (z298 P) (.node (z554 P) .nil .nil) (.node (z810 P) .nil .nil)) (.node (z426 P) (.node (z682 P) .nil .nil) (.node (z938 P) .nil .nil))) (.node (z234 P) (.node (z362 P) (.node (z618 P) .nil .nil) (.node (z874 P) .nil .nil)) (.node (z490 P) (.node (z746 P) .nil .nil) (.node (z1002 P) .nil .nil))))
noncomputable def q32o58 (P : Params) : BT := .node (z58 P) (.node (z90 P) (.node (z154 P) (.node (z282 P) (.node (z538 P) .nil .nil) (.node (z794 P) .nil .nil)) (.node (z410 P) (.node (z666 P) .nil .nil) (.node (z922 P) .nil .nil))) (.node (z218 P) (.node (z346 P) (.node (z602 P) .nil .nil) (.node (z858 P) .nil .nil)) (.node (z474 P) (.node (z730 P) .nil .nil) (.node (z986 P) .nil .nil)))) (.node (z122 P) (.node (z186 P) (.node (z314 P) (.node (z570 P) .nil .nil) (.node (z826 P) .nil .nil)) (.node (z442 P) (.node (z698 P) .nil .nil) (.node (z954 P) .nil .nil))) (.node (z250 P) (.node (z378 P) (.node (z634 P) .nil .nil) (.node (z890 P) .nil .nil)) (.node (z506 P) (.node (z762 P) .nil .nil) (.node (z1018 P) .nil .nil))))
noncomputable def q32o38 (P : Params) : BT := .node (z38 P) (.node (z70 P) (.node (z134 P) (.node (z262 P) (.node (z518 P) (.node (z1030 P) .nil .nil) .nil) (.node (z774 P) .nil .nil)) (.node (z390 P) (.node (z646 P) .nil .nil) (.node (z902 P) .nil .nil))) (.node (z198 P) (.node (z326 P) (.node (z582 P) .nil .nil) (.node (z838 P) .nil .nil)) (.node (z454 P) (.node (z710 P) .nil .nil) (.node (z966 P) .nil .nil)))) (.node (z102 P) (.node (z166 P) (.node (z294 P) (.node (z550 P) .nil .nil) (.node (z806 P) .nil .nil)) (.node (z422 P) (.node (z678 P) .nil .nil) (.node (z934 P) .nil .nil))) (.node (z230 P) (.node (z358 P) (.node (z614 P) .nil .nil) (.node (z870 P) .nil .nil)) (.node (z486 P) (.node (z742 P) .nil .nil) (.node (z998 P) .nil .nil))))
noncomputable def q32o54 (P : Params) : BT := .node (z54 P) (.node (z86 P) (.node (z150 P) (.node (z278 P) (.node (z534 P) .nil .nil) (.node (z790 P) .nil .nil)) (.node (z406 P) (.node (z662 P) .nil .nil) (.node (z918 P) .nil .nil))) (.node (z214 P) (.node (z342 P) (.node (z598 P) .nil .nil) (.node (z854 P) .nil .nil)) (.node (z470 P) (.node (z726 P) .nil .nil) (.node (z982 P) .nil .nil)))) (.node (z118 P) (.node (z182 P) (.node (z310 P) (.node (z566 P) .nil .nil) (.node (z822 P) .nil .nil)) (.node (z438 P) (.node (z694 P) .nil .nil) (.node (z950 P) .nil .nil))) (.node (z246 P) (.node (z374 P) (.node (z630 P) .nil .nil) (.node (z886 P) .nil .nil)) (.node (z502 P) (.node (z758 P) .nil .nil) (.node (z1014 P) .nil .nil))))
noncomputable def q32o46 (P : Params) : BT := .node (z46 P) (.node (z78 P) (.node (z142 P) (.node (z270 P) (.node (z526 P) (.node (z1038 P) .nil .nil) .nil) (.node (z782 P) .nil .nil)) (.node (z398 P) (.node (z654 P) .nil .nil) (.node (z910 P) .nil .nil))) (.node (z206 P) (.node (z334 P) (.node (z590 P) .nil .nil) (.node (z846 P) .nil .nil)) (.node (z462 P) (.node (z718 P) .nil .nil) (.node (z974 P) .nil .nil)))) (.node (z110 P) (.node (z174 P) (.node (z302 P) (.node (z558 P) .nil .nil) (.node (z814 P) .nil .nil)) (.node (z430 P) (.node (z686 P) .nil .nil) (.node (z942 P) .nil .nil))) (.node (z238 P) (.node (z366 P) (.node (z622 P) .nil .nil) (.node (z878 P) .nil .nil)) (.node (z494 P) (.node (z750 P) .nil .nil) (.node (z1006 P) .nil .nil))))
noncomputable def q32o62 (P : Params) : BT := .node (z62 P) (.node (z94 P) (.node (z158 P) (.node (z286 P) (.node (z542 P) .nil .nil) (.node (z798 P) .nil .nil)) (.node (z414 P) (.node (z670 P) .nil .nil) (.node (z926 P) .nil .nil))) (.node (z222 P) (.node (z350 P) (.node (z606 P) .nil .nil) (.node (z862 P) .nil .nil)) (.node (z478 P) (.node (z734 P) .nil .nil) (.node (z990 P) .nil .nil)))) (.node (z126 P) (.node (z190 P) (.node (z318 P) (.node (z574 P) .nil .nil) (.node (z830 P) .nil .nil)) (.node (z446 P) (.node (z702 P) .nil .nil) (.node (z958 P) .nil .nil))) (.node (z254 P) (.node (z382 P) (.node (z638 P) .nil .nil) (.node (z894 P) .nil .nil)) (.node (z510 P) (.node (z766 P) .nil .nil) (.node (z1022 P) .nil .nil))))
noncomputable def zT (P : Params) : BT := .node (z0 P) (.node (z1 P) (.node (z3 P) (.node (z7 P) (.node (z15 P) (q32o31 P) (q32o47 P)) (.node (z23 P) (q32o39 P) (q32o55 P))) (.node (z11 P) (.node (z19 P) (q32o35 P) (q32o51 P)) (.node (z27 P) (q32o43 P) (q32o59 P)))) (.node (z5 P) (.node (z9 P) (.node (z17 P) (q32o33 P) (q32o49 P)) (.node (z25 P) (q32o41 P) (q32o57 P))) (.node (z13 P) (.node (z21 P) (q32o37 P) (q32o53 P)) (.node (z29 P) (q32o45 P) (q32o61 P))))) (.node (z2 P) (.node (z4 P) (.node (z8 P) (.node (z16 P) (q32o32 P) (q32o48 P)) (.node (z24 P) (q32o40 P) (q32o56 P))) (.node (z12 P) (.node (z20 P) (q32o36 P) (q32o52 P)) (.node (z28 P) (q32o44 P) (q32o60 P)))) (.node (z6 P) (.node (z10 P) (.node (z18 P) (q32o34 P) (q32o50 P)) (.node (z26 P) (q32o42 P) (q32o58 P))) (.node (z14 P) (.node (z22 P) (q32o38 P) (q32o54 P)) (.node (z30 P) (q32o46 P) (q32o62 P)))))
noncomputable def trim (n : Nat) : Nat → Nat → BT → BT
  | _, _, .nil => .nil
  | a, b, .node v l r => match Nat.blt b n with
    | true => .node v (trim n (2 * a) (a + b) l) (trim n (2 * a) (2 * a + b) r)
    | false => .nil
noncomputable abbrev life0 : Life := ⟨[],[],[],0,[],[],false,⟨[]⟩,[],0,false,false,false,0,[2000,10,10],false,0,true,[],[],0,false⟩
noncomputable def pqE : Env := { scope := pq_scope, locals := mainNs, globals := mainNs, cells := [], code := .ref 13, frame := some 14 }
noncomputable def cE : Code := .body pq_body pqE
noncomputable def T0 (P : Params) : BT := BT.set (BT.set (BT.set (trim 15 1 0 (zT P)) 2 (fun _ => ⟨.none,none,.dict ⟨[]⟩ 0,⟨[]⟩⟩)) 3 (fun _ => g3 P t168 164 8 9)) 12 (fun _ => g12 0)
noncomputable def S0 (w : World) (os : OsState) : SharedT := ⟨T0 w.params,15,life0,⟨[]⟩,⟨0,0,0,0⟩,187,os⟩
noncomputable def T12 (P : Params) : BT := BT.set (BT.set (trim 179 1 0 (zT P)) 3 (fun _ => g3 P t3 254 17 18)) 12 (fun _ => g12 18)
noncomputable def S12 (w : World) (os : OsState) : SharedT := ⟨T12 w.params,179,life0,⟨[]⟩,⟨0,0,0,0⟩,404,os⟩
noncomputable def T18 (P : Params) : BT := BT.set (BT.set (BT.set (trim 293 1 0 (zT P)) 3 (fun _ => g3 P t8 404 22 23)) 12 (fun _ => g12 33)) 207 (fun _ => ⟨.type "type",none,.cls ⟨s_Node,[.type "object"],[.ref 207,.type "object"],206,s_Node,true,[],[.ref 236,.ref 263,.ref 290],false,none,false⟩,⟨[none,none,some (.str s_Node 412),some (.str s_Node 420),some (.builtin "object.__new__"),some (.bool true)]⟩⟩)
noncomputable def S18 (w : World) (os : OsState) : SharedT := ⟨T18 w.params,293,life0,⟨[]⟩,⟨0,0,0,0⟩,551,os⟩
noncomputable def T23 (P : Params) : BT := BT.set (BT.set (BT.set (trim 428 1 0 (zT P)) 3 (fun _ => g3 P t8 404 27 28)) 12 (fun _ => g12 48)) 207 (fun _ => ⟨.type "type",none,.cls ⟨s_Node,[.type "object"],[.ref 207,.type "object"],206,s_Node,true,[],[.ref 236,.ref 263,.ref 290,.ref 317,.ref 344,.ref 371,.ref 398,.ref 425],false,none,false⟩,⟨[none,none,some (.str s_Node 412),some (.str s_Node 420),some (.builtin "object.__new__"),some (.bool true)]⟩⟩)
noncomputable def S23 (w : World) (os : OsState) : SharedT := ⟨T23 w.params,428,life0,⟨[]⟩,⟨0,0,0,0⟩,720,os⟩
noncomputable def T29 (P : Params) : BT := BT.set (BT.set (BT.set (trim 563 1 0 (zT P)) 3 (fun _ => g3 P t11 753 32 33)) 12 (fun _ => g12 63)) 207 (fun _ => ⟨.type "type",none,.cls ⟨s_Node,[.type "object"],[.ref 207,.type "object"],206,s_Node,true,[],[.ref 236,.ref 263,.ref 290,.ref 317,.ref 344,.ref 371,.ref 398,.ref 425,.ref 452,.ref 479,.ref 506,.ref 533,.ref 560],false,none,false⟩,⟨[none,none,some (.str s_Node 412),some (.str s_Node 420),some (.builtin "object.__new__"),some (.bool true)]⟩⟩)
noncomputable def S29 (w : World) (os : OsState) : SharedT := ⟨T29 w.params,563,life0,⟨[]⟩,⟨0,0,0,0⟩,889,os⟩
noncomputable def T34 (P : Params) : BT := BT.set (BT.set (BT.set (trim 698 1 0 (zT P)) 3 (fun _ => g3 P t11 753 37 38)) 12 (fun _ => g12 78)) 207 (fun _ => ⟨.type "type",none,.cls ⟨s_Node,[.type "object"],[.ref 207,.type "object"],206,s_Node,true,[],[.ref 236,.ref 263,.ref 290,.ref 317,.ref 344,.ref 371,.ref 398,.ref 425,.ref 452,.ref 479,.ref 506,.ref 533,.ref 560,.ref 587,.ref 614,.ref 641,.ref 668,.ref 695],false,none,false⟩,⟨[none,none,some (.str s_Node 412),some (.str s_Node 420),some (.builtin "object.__new__"),some (.bool true)]⟩⟩)
noncomputable def S34 (w : World) (os : OsState) : SharedT := ⟨T34 w.params,698,life0,⟨[]⟩,⟨0,0,0,0⟩,1056,os⟩
noncomputable def T55 (P : Params) : BT := BT.set (BT.set (trim 861 1 0 (zT P)) 3 (fun _ => g3 P t18 1259 56 57)) 12 (fun _ => g12 132)
noncomputable def S55 (w : World) (os : OsState) : SharedT := ⟨T55 w.params,861,life0,⟨[]⟩,⟨0,0,0,0⟩,1261,os⟩
noncomputable def T73 (P : Params) : BT := zT P
noncomputable def S73 (w : World) (os : OsState) : SharedT := ⟨T73 w.params,1042,life0,⟨[]⟩,⟨0,0,0,0⟩,1530,os⟩
noncomputable def B12 : List Stmt := [c_0,c_1,c_2,c_3,c_4,c_5,c_6,c_7,c_8,c_9,c_10,c_11]
theorem pc12 (w : World) (os : OsState) : segRunT treeTable pq w 11 (some (.ref 6)) 1 1211 (S0 w os) (piecesOf B12 pqE cE ⟨0,0,0,0⟩ [topFrame ⟨0,0,0,0⟩]) = some (.next, S12 w os, cE, ⟨22,0,88,55⟩) := by
  rw [PySem.W.Fast.te10110043849684766642, PySem.W.Fast.te14364793385576792824]; kernel_rfl
noncomputable def B18 : List Stmt := [c_12,c_13,c_14,c_15,c_16,c_17]
theorem pc18 (w : World) (os : OsState) : segRunT treeTable pq w 11 (some (.ref 6)) 1 1127 (S12 w os) (piecesOf B18 pqE cE ⟨22,0,88,55⟩ [topFrame ⟨0,0,0,0⟩]) = some (.next, S18 w os, cE, ⟨117,0,125,45⟩) := by
  rw [PySem.W.Fast.te10110043849684766642, PySem.W.Fast.te14364793385576792824]; kernel_rfl
noncomputable def B23 : List Stmt := [c_18,c_19,c_20,c_21,c_22]
theorem pc23 (w : World) (os : OsState) : segRunT treeTable pq w 11 (some (.ref 6)) 1 1395 (S18 w os) (piecesOf B23 pqE cE ⟨117,0,125,45⟩ [topFrame ⟨0,0,0,0⟩]) = some (.next, S23 w os, cE, ⟨160,0,167,44⟩) := by
  rw [PySem.W.Fast.te10110043849684766642, PySem.W.Fast.te14364793385576792824]; kernel_rfl
noncomputable def B29 : List Stmt := [c_23,c_24,c_25,c_26,c_27,c_28]
theorem pc29 (w : World) (os : OsState) : segRunT treeTable pq w 11 (some (.ref 6)) 1 1402 (S23 w os) (piecesOf B29 pqE cE ⟨160,0,167,44⟩ [topFrame ⟨0,0,0,0⟩]) = some (.next, S29 w os, cE, ⟨201,0,209,54⟩) := by
  rw [PySem.W.Fast.te10110043849684766642, PySem.W.Fast.te14364793385576792824]; kernel_rfl
noncomputable def B34 : List Stmt := [c_29,c_30,c_31,c_32,c_33]
theorem pc34 (w : World) (os : OsState) : segRunT treeTable pq w 11 (some (.ref 6)) 1 1393 (S29 w os) (piecesOf B34 pqE cE ⟨201,0,209,54⟩ [topFrame ⟨0,0,0,0⟩]) = some (.next, S34 w os, cE, ⟨243,0,250,44⟩) := by
  rw [PySem.W.Fast.te10110043849684766642, PySem.W.Fast.te14364793385576792824]; kernel_rfl
noncomputable def B55 : List Stmt := [c_34,c_35,c_36,c_37,c_38,c_39,c_40,c_41,c_42,c_43,c_44,c_45,c_46,c_47,c_48,c_49,c_50,c_51,c_52,c_53,c_54]
theorem pc55 (w : World) (os : OsState) : segRunT treeTable pq w 11 (some (.ref 6)) 1 1067 (S34 w os) (piecesOf B55 pqE cE ⟨243,0,250,44⟩ [topFrame ⟨0,0,0,0⟩]) = some (.next, S55 w os, cE, ⟨399,0,399,8⟩) := by
  rw [PySem.W.Fast.te10110043849684766642, PySem.W.Fast.te14364793385576792824]; kernel_rfl
noncomputable def B73 : List Stmt := [c_55,c_56,c_57,c_58,c_59,c_60,c_61,c_62,c_63,c_64,c_65,c_66,c_67,c_68,c_69,c_70,c_71,c_72]
theorem pc73 (w : World) (os : OsState) : segRunT treeTable pq w 11 (some (.ref 6)) 1 1121 (S55 w os) (piecesOf B73 pqE cE ⟨399,0,399,8⟩ [topFrame ⟨0,0,0,0⟩]) = some (.next, S73 w os, cE, ⟨556,0,564,15⟩) := by
  rw [PySem.W.Fast.te10110043849684766642, PySem.W.Fast.te14364793385576792824]; kernel_rfl
noncomputable def mid : List Stmt := B12 ++ (B18 ++ (B23 ++ (B29 ++ (B34 ++ (B55 ++ (B73 ++ []))))))
theorem mid_is : mid = pq_body := by kernel_rfl
theorem behind_is : behindTheImports pq = pq_body := by kernel_rfl
theorem pq_eq : PySem.Challenge.pw_pq0612_01 = pq := by kernel_rfl
abbrev bs : List Frame := [topFrame ⟨0,0,0,0⟩]
theorem pre (w : World) (os : OsState) : topGo treeTable pq w 11 (some (.ref 6)) 12 ⟨boot_heap w.params, ⟨[]⟩, boot_drawn, boot_toks, os⟩ (topStub pq) = some ((S0 w os).abs, ⟨denote treeTable cE, cE, ⟨0,0,0,0⟩, bs⟩) := by
  rw [PySem.W.Fast.te15667345088766844465, PySem.W.Fast.te11892475500146522536, PySem.W.Fast.te14364793385576792824]; kernel_rfl
theorem block (w : World) (os : OsState) : segRun treeTable pq w 11 (some (.ref 6)) 1 1 (S0 w os).abs (blockOf pq_body pqE cE ⟨0,0,0,0⟩ bs) = some (.next, (S0 w os).abs, cE, ⟨0,0,0,0⟩) := by
  rw [PySem.W.Fast.te14374325043358763698, PySem.W.Fast.te14364793385576792824]; kernel_rfl
noncomputable abbrev zH (P : Params) : Heap := absHeap (zT P) 1042 life0
theorem fin (w : World) (os : OsState) : topRun treeTable pq w 11 (some (.ref 6)) 2 (S73 w os).abs ⟨doneF .next, cE, ⟨556,0,564,15⟩, bs⟩ = some ⟨zH w.params, ⟨[]⟩, ⟨0,0,0,0⟩, 1530, os⟩ := by
  rw [PySem.W.Fast.te14082659384304107361, PySem.W.Fast.te14364793385576792824]; kernel_rfl
theorem run (w : World) (os : OsState) : topRun treeTable pq w 11 (some (.ref 6)) (12 + (1 + (1211 + (1127 + (1395 + (1402 + (1393 + (1067 + (1121 + 2))))))))) ⟨boot_heap w.params, ⟨[]⟩, boot_drawn, boot_toks, os⟩ (topStub pq) = some ⟨zH w.params, ⟨[]⟩, ⟨0,0,0,0⟩, 1530, os⟩ := by
  have k := piece_app (segRun_of (pc12 w os)) (piece_app (segRun_of (pc18 w os)) (piece_app (segRun_of (pc23 w os)) (piece_app (segRun_of (pc29 w os)) (piece_app (segRun_of (pc34 w os)) (piece_app (segRun_of (pc55 w os)) (piece_app (segRun_of (pc73 w os)) (piece_nil (fin w os))))))))
  rw [show B12 ++ (B18 ++ (B23 ++ (B29 ++ (B34 ++ (B55 ++ (B73 ++ [])))))) = pq_body from mid_is] at k
  exact go_top (pre w os) (piece_block (block w os) k)
noncomputable def qv : Program := { pq with main := { pq.main with body := [c_72] } }
noncomputable def lo : List Str := (pq_scope.names.map (·.1)).filter (· != s_law)
noncomputable abbrev sF (w : World) (os : OsState) : Shared := ⟨zH w.params, ⟨[]⟩, ⟨0,0,0,0⟩, 1530, os⟩
theorem look1 (w : World) : staticsOk (importedModules pq.main.body) (boot_heap w.params) (zH w.params) = true := by kernel_rfl
theorem look2 (w : World) : namesBound pq (zH w.params) = true := by kernel_rfl
theorem look3 (w : World) (os : OsState) : gensDone (sF w os) = true := by kernel_rfl
theorem look4 (w : World) : laidKept (boot_heap w.params) (zH w.params) = true := by kernel_rfl
theorem look5 (w : World) (os : OsState) : openSeen qv lo (importedModules pq.main.body) (fun _ => true) true (sF w os) = openGood qv lo := by
  rw [PySem.W.Fast.te4187177175401517315]; kernel_rfl
theorem left : LeftO pq qv lo (fun _ => true) (fun s => (s.heap, s.toks)) (fun w => (zH w.params, 1530)) 9000 :=
  LeftO.of_pieces (boot_open (by kernel_rfl) (by kernel_rfl) (fun s => by kernel_rfl)) (fun w => by kernel_rfl) run (by kernel_rfl) fun w => funext fun os => by
    rw [look1, look2, look4, look5]
    exact congrArg (·, _) (look3 w os)
noncomputable def rq : OpenLaw := { prog := pq, name := s_law, about := [s_pattern_of], foot := 14, most := some 63, bound := none, writes := false }
theorem rq_eq : PySem.Challenge.rw_pq0612_01 = rq := by kernel_rfl
noncomputable abbrev lawD : DefRec := ⟨s_law, p_law, b_law, e_law, ⟨556,0,564,15⟩⟩
theorem law_def : defOf qv rq.row.name = some (lawD, []) := by kernel_rfl
theorem law_the : rq.row.prog.theDef rq.row.name = some (lawD.params, lawD.body, lawD.scope) := by kernel_rfl
theorem law_ok1 : chainsOk qv = true := by kernel_rfl
theorem law_ok2 : opensWell rq.row.prog = true := by first | k_qdec | kernel_rfl
theorem law_ok3 : (frees rq.row.toRowW && rq.row.within.isEmpty) = true := by kernel_rfl
theorem law_bare : rq.row.prog.bare := ⟨rfl, rfl, rfl, rfl, rfl, by decide +kernel⟩
theorem law_wit : rq.row.toRowW.promised := ⟨[.list []], by decide +kernel, by decide +kernel⟩
theorem top (call : WalkX qv lo (fun _ _ => True) (fun s => (s.heap, s.toks)) (fun w => (zH w.params, 1530)) rq.row.toRowW lawD [] fun f vs => PySem.call f vs) : PySem.Challenge.rw_pq0612_01.Holds := by
  rw [rq_eq]
  o_law; rename_i said
  exact holds_openX (XP := fun _ _ => True) left (fun _ _ => trivial) (fun _ _ _ _ _ => trivial) law_def law_the (by kernel_rfl) (fun s _ => recFacts_of rfl) (by kernel_rfl) said (by rw [law_ok1, law_ok2, law_ok3]; rfl) law_bare law_wit call
end hd
end Mine
end
open PySem PySem.W PyProof.Rows PySem.Spec PySem.Calls
namespace Mine
local macro_rules | `(tactic| walk_at "o") => `(tactic| first | decide | lia | omega)
local macro_rules | `(tactic| walk_at "rw") => `(tactic| repeat walk_at "M.w")
local macro_rules | `(tactic| walk_at "ry") => `(tactic| repeat walk_at "M.y")
local macro_rules | `(tactic| walk_at "rx") => `(tactic| repeat walk_at "M.x")
theorem oA {A1 : Prop} {Z : Prop} {P : Prop} (h : A1 ∧ Z) (k : A1 → Z → P) : P := by obtain ⟨a1, z⟩ := h; exact k a1 z
theorem oAA {A1 : Prop} {A2 : Prop} {Z : Prop} {P : Prop} (h : A1 ∧ A2 ∧ Z) (k : A1 → A2 → Z → P) : P := by obtain ⟨a1, a2, z⟩ := h; exact k a1 a2 z
theorem oAE {α1 : Type} {A1 : Prop} {Z : α1 → Prop} {P : Prop} (h : A1 ∧ ∃ x1, Z x1) (k : A1 → ∀ x1, Z x1 → P) : P := by obtain ⟨a1, x1, z⟩ := h; exact k a1 x1 z
theorem oEA {α1 : Type} {A1 : α1 → Prop} {Z : α1 → Prop} {P : Prop} (h : ∃ x1, A1 x1 ∧ Z x1) (k : ∀ x1, A1 x1 → Z x1 → P) : P := by obtain ⟨x1, a1, z⟩ := h; exact k x1 a1 z
theorem oEE {α1 α2 : Type}  {Z : α1 → α2 → Prop} {P : Prop} (h : ∃ x1, ∃ x2, Z x1 x2) (k : ∀ x1, ∀ x2, Z x1 x2 → P) : P := by obtain ⟨x1, x2, z⟩ := h; exact k x1 x2 z
theorem oAAA {A1 : Prop} {A2 : Prop} {A3 : Prop} {Z : Prop} {P : Prop} (h : A1 ∧ A2 ∧ A3 ∧ Z) (k : A1 → A2 → A3 → Z → P) : P := by obtain ⟨a1, a2, a3, z⟩ := h; exact k a1 a2 a3 z
theorem oAEA {α1 : Type} {A1 : Prop} {A2 : α1 → Prop} {Z : α1 → Prop} {P : Prop} (h : A1 ∧ ∃ x1, A2 x1 ∧ Z x1) (k : A1 → ∀ x1, A2 x1 → Z x1 → P) : P := by obtain ⟨a1, x1, a2, z⟩ := h; exact k a1 x1 a2 z
theorem oEAA {α1 : Type} {A1 : α1 → Prop} {A2 : α1 → Prop} {Z : α1 → Prop} {P : Prop} (h : ∃ x1, A1 x1 ∧ A2 x1 ∧ Z x1) (k : ∀ x1, A1 x1 → A2 x1 → Z x1 → P) : P := by obtain ⟨x1, a1, a2, z⟩ := h; exact k x1 a1 a2 z
theorem oEEA {α1 α2 : Type} {A1 : α1 → α2 → Prop} {Z : α1 → α2 → Prop} {P : Prop} (h : ∃ x1, ∃ x2, A1 x1 x2 ∧ Z x1 x2) (k : ∀ x1, ∀ x2, A1 x1 x2 → Z x1 x2 → P) : P := by obtain ⟨x1, x2, a1, z⟩ := h; exact k x1 x2 a1 z
theorem oAAAA {A1 : Prop} {A2 : Prop} {A3 : Prop} {A4 : Prop} {Z : Prop} {P : Prop} (h : A1 ∧ A2 ∧ A3 ∧ A4 ∧ Z) (k : A1 → A2 → A3 → A4 → Z → P) : P := by obtain ⟨a1, a2, a3, a4, z⟩ := h; exact k a1 a2 a3 a4 z
theorem oAAEA {α1 : Type} {A1 : Prop} {A2 : Prop} {A3 : α1 → Prop} {Z : α1 → Prop} {P : Prop} (h : A1 ∧ A2 ∧ ∃ x1, A3 x1 ∧ Z x1) (k : A1 → A2 → ∀ x1, A3 x1 → Z x1 → P) : P := by obtain ⟨a1, a2, x1, a3, z⟩ := h; exact k a1 a2 x1 a3 z
theorem oAEEA {α1 α2 : Type} {A1 : Prop} {A2 : α1 → α2 → Prop} {Z : α1 → α2 → Prop} {P : Prop} (h : A1 ∧ ∃ x1, ∃ x2, A2 x1 x2 ∧ Z x1 x2) (k : A1 → ∀ x1, ∀ x2, A2 x1 x2 → Z x1 x2 → P) : P := by obtain ⟨a1, x1, x2, a2, z⟩ := h; exact k a1 x1 x2 a2 z
theorem oAEEE {α1 α2 α3 : Type} {A1 : Prop} {Z : α1 → α2 → α3 → Prop} {P : Prop} (h : A1 ∧ ∃ x1, ∃ x2, ∃ x3, Z x1 x2 x3) (k : A1 → ∀ x1, ∀ x2, ∀ x3, Z x1 x2 x3 → P) : P := by obtain ⟨a1, x1, x2, x3, z⟩ := h; exact k a1 x1 x2 x3 z
theorem oEAAA {α1 : Type} {A1 : α1 → Prop} {A2 : α1 → Prop} {A3 : α1 → Prop} {Z : α1 → Prop} {P : Prop} (h : ∃ x1, A1 x1 ∧ A2 x1 ∧ A3 x1 ∧ Z x1) (k : ∀ x1, A1 x1 → A2 x1 → A3 x1 → Z x1 → P) : P := by obtain ⟨x1, a1, a2, a3, z⟩ := h; exact k x1 a1 a2 a3 z
theorem oEAAE {α1 α2 : Type} {A1 : α1 → Prop} {A2 : α1 → Prop} {Z : α1 → α2 → Prop} {P : Prop} (h : ∃ x1, A1 x1 ∧ A2 x1 ∧ ∃ x2, Z x1 x2) (k : ∀ x1, A1 x1 → A2 x1 → ∀ x2, Z x1 x2 → P) : P := by obtain ⟨x1, a1, a2, x2, z⟩ := h; exact k x1 a1 a2 x2 z
theorem oEEAA {α1 α2 : Type} {A1 : α1 → α2 → Prop} {A2 : α1 → α2 → Prop} {Z : α1 → α2 → Prop} {P : Prop} (h : ∃ x1, ∃ x2, A1 x1 x2 ∧ A2 x1 x2 ∧ Z x1 x2) (k : ∀ x1, ∀ x2, A1 x1 x2 → A2 x1 x2 → Z x1 x2 → P) : P := by obtain ⟨x1, x2, a1, a2, z⟩ := h; exact k x1 x2 a1 a2 z
theorem oEEEA {α1 α2 α3 : Type} {A1 : α1 → α2 → α3 → Prop} {Z : α1 → α2 → α3 → Prop} {P : Prop} (h : ∃ x1, ∃ x2, ∃ x3, A1 x1 x2 x3 ∧ Z x1 x2 x3) (k : ∀ x1, ∀ x2, ∀ x3, A1 x1 x2 x3 → Z x1 x2 x3 → P) : P := by obtain ⟨x1, x2, x3, a1, z⟩ := h; exact k x1 x2 x3 a1 z
theorem oAAAAA {A1 : Prop} {A2 : Prop} {A3 : Prop} {A4 : Prop} {A5 : Prop} {Z : Prop} {P : Prop} (h : A1 ∧ A2 ∧ A3 ∧ A4 ∧ A5 ∧ Z) (k : A1 → A2 → A3 → A4 → A5 → Z → P) : P := by obtain ⟨a1, a2, a3, a4, a5, z⟩ := h; exact k a1 a2 a3 a4 a5 z
theorem oAEEAA {α1 α2 : Type} {A1 : Prop} {A2 : α1 → α2 → Prop} {A3 : α1 → α2 → Prop} {Z : α1 → α2 → Prop} {P : Prop} (h : A1 ∧ ∃ x1, ∃ x2, A2 x1 x2 ∧ A3 x1 x2 ∧ Z x1 x2) (k : A1 → ∀ x1, ∀ x2, A2 x1 x2 → A3 x1 x2 → Z x1 x2 → P) : P := by obtain ⟨a1, x1, x2, a2, a3, z⟩ := h; exact k a1 x1 x2 a2 a3 z
theorem oEAAAA {α1 : Type} {A1 : α1 → Prop} {A2 : α1 → Prop} {A3 : α1 → Prop} {A4 : α1 → Prop} {Z : α1 → Prop} {P : Prop} (h : ∃ x1, A1 x1 ∧ A2 x1 ∧ A3 x1 ∧ A4 x1 ∧ Z x1) (k : ∀ x1, A1 x1 → A2 x1 → A3 x1 → A4 x1 → Z x1 → P) : P := by obtain ⟨x1, a1, a2, a3, a4, z⟩ := h; exact k x1 a1 a2 a3 a4 z
theorem oEEAAA {α1 α2 : Type} {A1 : α1 → α2 → Prop} {A2 : α1 → α2 → Prop} {A3 : α1 → α2 → Prop} {Z : α1 → α2 → Prop} {P : Prop} (h : ∃ x1, ∃ x2, A1 x1 x2 ∧ A2 x1 x2 ∧ A3 x1 x2 ∧ Z x1 x2) (k : ∀ x1, ∀ x2, A1 x1 x2 → A2 x1 x2 → A3 x1 x2 → Z x1 x2 → P) : P := by obtain ⟨x1, x2, a1, a2, a3, z⟩ := h; exact k x1 x2 a1 a2 a3 z
theorem oEEEAA {α1 α2 α3 : Type} {A1 : α1 → α2 → α3 → Prop} {A2 : α1 → α2 → α3 → Prop} {Z : α1 → α2 → α3 → Prop} {P : Prop} (h : ∃ x1, ∃ x2, ∃ x3, A1 x1 x2 x3 ∧ A2 x1 x2 x3 ∧ Z x1 x2 x3) (k : ∀ x1, ∀ x2, ∀ x3, A1 x1 x2 x3 → A2 x1 x2 x3 → Z x1 x2 x3 → P) : P := by obtain ⟨x1, x2, x3, a1, a2, z⟩ := h; exact k x1 x2 x3 a1 a2 z
theorem oEEEEA {α1 α2 α3 α4 : Type} {A1 : α1 → α2 → α3 → α4 → Prop} {Z : α1 → α2 → α3 → α4 → Prop} {P : Prop} (h : ∃ x1, ∃ x2, ∃ x3, ∃ x4, A1 x1 x2 x3 x4 ∧ Z x1 x2 x3 x4) (k : ∀ x1, ∀ x2, ∀ x3, ∀ x4, A1 x1 x2 x3 x4 → Z x1 x2 x3 x4 → P) : P := by obtain ⟨x1, x2, x3, x4, a1, z⟩ := h; exact k x1 x2 x3 x4 a1 z
theorem oAAAAAA {A1 : Prop} {A2 : Prop} {A3 : Prop} {A4 : Prop} {A5 : Prop} {A6 : Prop} {Z : Prop} {P : Prop} (h : A1 ∧ A2 ∧ A3 ∧ A4 ∧ A5 ∧ A6 ∧ Z) (k : A1 → A2 → A3 → A4 → A5 → A6 → Z → P) : P := by obtain ⟨a1, a2, a3, a4, a5, a6, z⟩ := h; exact k a1 a2 a3 a4 a5 a6 z
theorem oEEAAAE {α1 α2 α3 : Type} {A1 : α1 → α2 → Prop} {A2 : α1 → α2 → Prop} {A3 : α1 → α2 → Prop} {Z : α1 → α2 → α3 → Prop} {P : Prop} (h : ∃ x1, ∃ x2, A1 x1 x2 ∧ A2 x1 x2 ∧ A3 x1 x2 ∧ ∃ x3, Z x1 x2 x3) (k : ∀ x1, ∀ x2, A1 x1 x2 → A2 x1 x2 → A3 x1 x2 → ∀ x3, Z x1 x2 x3 → P) : P := by obtain ⟨x1, x2, a1, a2, a3, x3, z⟩ := h; exact k x1 x2 a1 a2 a3 x3 z
theorem oEEEAAA {α1 α2 α3 : Type} {A1 : α1 → α2 → α3 → Prop} {A2 : α1 → α2 → α3 → Prop} {A3 : α1 → α2 → α3 → Prop} {Z : α1 → α2 → α3 → Prop} {P : Prop} (h : ∃ x1, ∃ x2, ∃ x3, A1 x1 x2 x3 ∧ A2 x1 x2 x3 ∧ A3 x1 x2 x3 ∧ Z x1 x2 x3) (k : ∀ x1, ∀ x2, ∀ x3, A1 x1 x2 x3 → A2 x1 x2 x3 → A3 x1 x2 x3 → Z x1 x2 x3 → P) : P := by obtain ⟨x1, x2, x3, a1, a2, a3, z⟩ := h; exact k x1 x2 x3 a1 a2 a3 z
theorem oEEEEAA {α1 α2 α3 α4 : Type} {A1 : α1 → α2 → α3 → α4 → Prop} {A2 : α1 → α2 → α3 → α4 → Prop} {Z : α1 → α2 → α3 → α4 → Prop} {P : Prop} (h : ∃ x1, ∃ x2, ∃ x3, ∃ x4, A1 x1 x2 x3 x4 ∧ A2 x1 x2 x3 x4 ∧ Z x1 x2 x3 x4) (k : ∀ x1, ∀ x2, ∀ x3, ∀ x4, A1 x1 x2 x3 x4 → A2 x1 x2 x3 x4 → Z x1 x2 x3 x4 → P) : P := by obtain ⟨x1, x2, x3, x4, a1, a2, z⟩ := h; exact k x1 x2 x3 x4 a1 a2 z
theorem oAAAAAAA {A1 : Prop} {A2 : Prop} {A3 : Prop} {A4 : Prop} {A5 : Prop} {A6 : Prop} {A7 : Prop} {Z : Prop} {P : Prop} (h : A1 ∧ A2 ∧ A3 ∧ A4 ∧ A5 ∧ A6 ∧ A7 ∧ Z) (k : A1 → A2 → A3 → A4 → A5 → A6 → A7 → Z → P) : P := by obtain ⟨a1, a2, a3, a4, a5, a6, a7, z⟩ := h; exact k a1 a2 a3 a4 a5 a6 a7 z
theorem oAEEAAAA {α1 α2 : Type} {A1 : Prop} {A2 : α1 → α2 → Prop} {A3 : α1 → α2 → Prop} {A4 : α1 → α2 → Prop} {A5 : α1 → α2 → Prop} {Z : α1 → α2 → Prop} {P : Prop} (h : A1 ∧ ∃ x1, ∃ x2, A2 x1 x2 ∧ A3 x1 x2 ∧ A4 x1 x2 ∧ A5 x1 x2 ∧ Z x1 x2) (k : A1 → ∀ x1, ∀ x2, A2 x1 x2 → A3 x1 x2 → A4 x1 x2 → A5 x1 x2 → Z x1 x2 → P) : P := by obtain ⟨a1, x1, x2, a2, a3, a4, a5, z⟩ := h; exact k a1 x1 x2 a2 a3 a4 a5 z
theorem oEEAAAAA {α1 α2 : Type} {A1 : α1 → α2 → Prop} {A2 : α1 → α2 → Prop} {A3 : α1 → α2 → Prop} {A4 : α1 → α2 → Prop} {A5 : α1 → α2 → Prop} {Z : α1 → α2 → Prop} {P : Prop} (h : ∃ x1, ∃ x2, A1 x1 x2 ∧ A2 x1 x2 ∧ A3 x1 x2 ∧ A4 x1 x2 ∧ A5 x1 x2 ∧ Z x1 x2) (k : ∀ x1, ∀ x2, A1 x1 x2 → A2 x1 x2 → A3 x1 x2 → A4 x1 x2 → A5 x1 x2 → Z x1 x2 → P) : P := by obtain ⟨x1, x2, a1, a2, a3, a4, a5, z⟩ := h; exact k x1 x2 a1 a2 a3 a4 a5 z
theorem oEEEAAAA {α1 α2 α3 : Type} {A1 : α1 → α2 → α3 → Prop} {A2 : α1 → α2 → α3 → Prop} {A3 : α1 → α2 → α3 → Prop} {A4 : α1 → α2 → α3 → Prop} {Z : α1 → α2 → α3 → Prop} {P : Prop} (h : ∃ x1, ∃ x2, ∃ x3, A1 x1 x2 x3 ∧ A2 x1 x2 x3 ∧ A3 x1 x2 x3 ∧ A4 x1 x2 x3 ∧ Z x1 x2 x3) (k : ∀ x1, ∀ x2, ∀ x3, A1 x1 x2 x3 → A2 x1 x2 x3 → A3 x1 x2 x3 → A4 x1 x2 x3 → Z x1 x2 x3 → P) : P := by obtain ⟨x1, x2, x3, a1, a2, a3, a4, z⟩ := h; exact k x1 x2 x3 a1 a2 a3 a4 z
theorem oEEEEAAA {α1 α2 α3 α4 : Type} {A1 : α1 → α2 → α3 → α4 → Prop} {A2 : α1 → α2 → α3 → α4 → Prop} {A3 : α1 → α2 → α3 → α4 → Prop} {Z : α1 → α2 → α3 → α4 → Prop} {P : Prop} (h : ∃ x1, ∃ x2, ∃ x3, ∃ x4, A1 x1 x2 x3 x4 ∧ A2 x1 x2 x3 x4 ∧ A3 x1 x2 x3 x4 ∧ Z x1 x2 x3 x4) (k : ∀ x1, ∀ x2, ∀ x3, ∀ x4, A1 x1 x2 x3 x4 → A2 x1 x2 x3 x4 → A3 x1 x2 x3 x4 → Z x1 x2 x3 x4 → P) : P := by obtain ⟨x1, x2, x3, x4, a1, a2, a3, z⟩ := h; exact k x1 x2 x3 x4 a1 a2 a3 z
theorem oEEEEEAA {α1 α2 α3 α4 α5 : Type} {A1 : α1 → α2 → α3 → α4 → α5 → Prop} {A2 : α1 → α2 → α3 → α4 → α5 → Prop} {Z : α1 → α2 → α3 → α4 → α5 → Prop} {P : Prop} (h : ∃ x1, ∃ x2, ∃ x3, ∃ x4, ∃ x5, A1 x1 x2 x3 x4 x5 ∧ A2 x1 x2 x3 x4 x5 ∧ Z x1 x2 x3 x4 x5) (k : ∀ x1, ∀ x2, ∀ x3, ∀ x4, ∀ x5, A1 x1 x2 x3 x4 x5 → A2 x1 x2 x3 x4 x5 → Z x1 x2 x3 x4 x5 → P) : P := by obtain ⟨x1, x2, x3, x4, x5, a1, a2, z⟩ := h; exact k x1 x2 x3 x4 x5 a1 a2 z
theorem oEEEEEEE {α1 α2 α3 α4 α5 α6 α7 : Type}  {Z : α1 → α2 → α3 → α4 → α5 → α6 → α7 → Prop} {P : Prop} (h : ∃ x1, ∃ x2, ∃ x3, ∃ x4, ∃ x5, ∃ x6, ∃ x7, Z x1 x2 x3 x4 x5 x6 x7) (k : ∀ x1, ∀ x2, ∀ x3, ∀ x4, ∀ x5, ∀ x6, ∀ x7, Z x1 x2 x3 x4 x5 x6 x7 → P) : P := by obtain ⟨x1, x2, x3, x4, x5, x6, x7, z⟩ := h; exact k x1 x2 x3 x4 x5 x6 x7 z
theorem oAEEEAAAA {α1 α2 α3 : Type} {A1 : Prop} {A2 : α1 → α2 → α3 → Prop} {A3 : α1 → α2 → α3 → Prop} {A4 : α1 → α2 → α3 → Prop} {A5 : α1 → α2 → α3 → Prop} {Z : α1 → α2 → α3 → Prop} {P : Prop} (h : A1 ∧ ∃ x1, ∃ x2, ∃ x3, A2 x1 x2 x3 ∧ A3 x1 x2 x3 ∧ A4 x1 x2 x3 ∧ A5 x1 x2 x3 ∧ Z x1 x2 x3) (k : A1 → ∀ x1, ∀ x2, ∀ x3, A2 x1 x2 x3 → A3 x1 x2 x3 → A4 x1 x2 x3 → A5 x1 x2 x3 → Z x1 x2 x3 → P) : P := by obtain ⟨a1, x1, x2, x3, a2, a3, a4, a5, z⟩ := h; exact k a1 x1 x2 x3 a2 a3 a4 a5 z
theorem oEEAAAAAA {α1 α2 : Type} {A1 : α1 → α2 → Prop} {A2 : α1 → α2 → Prop} {A3 : α1 → α2 → Prop} {A4 : α1 → α2 → Prop} {A5 : α1 → α2 → Prop} {A6 : α1 → α2 → Prop} {Z : α1 → α2 → Prop} {P : Prop} (h : ∃ x1, ∃ x2, A1 x1 x2 ∧ A2 x1 x2 ∧ A3 x1 x2 ∧ A4 x1 x2 ∧ A5 x1 x2 ∧ A6 x1 x2 ∧ Z x1 x2) (k : ∀ x1, ∀ x2, A1 x1 x2 → A2 x1 x2 → A3 x1 x2 → A4 x1 x2 → A5 x1 x2 → A6 x1 x2 → Z x1 x2 → P) : P := by obtain ⟨x1, x2, a1, a2, a3, a4, a5, a6, z⟩ := h; exact k x1 x2 a1 a2 a3 a4 a5 a6 z
theorem oEEEEAAAA {α1 α2 α3 α4 : Type} {A1 : α1 → α2 → α3 → α4 → Prop} {A2 : α1 → α2 → α3 → α4 → Prop} {A3 : α1 → α2 → α3 → α4 → Prop} {A4 : α1 → α2 → α3 → α4 → Prop} {Z : α1 → α2 → α3 → α4 → Prop} {P : Prop} (h : ∃ x1, ∃ x2, ∃ x3, ∃ x4, A1 x1 x2 x3 x4 ∧ A2 x1 x2 x3 x4 ∧ A3 x1 x2 x3 x4 ∧ A4 x1 x2 x3 x4 ∧ Z x1 x2 x3 x4) (k : ∀ x1, ∀ x2, ∀ x3, ∀ x4, A1 x1 x2 x3 x4 → A2 x1 x2 x3 x4 → A3 x1 x2 x3 x4 → A4 x1 x2 x3 x4 → Z x1 x2 x3 x4 → P) : P := by obtain ⟨x1, x2, x3, x4, a1, a2, a3, a4, z⟩ := h; exact k x1 x2 x3 x4 a1 a2 a3 a4 z
theorem oEEEEEAAA {α1 α2 α3 α4 α5 : Type} {A1 : α1 → α2 → α3 → α4 → α5 → Prop} {A2 : α1 → α2 → α3 → α4 → α5 → Prop} {A3 : α1 → α2 → α3 → α4 → α5 → Prop} {Z : α1 → α2 → α3 → α4 → α5 → Prop} {P : Prop} (h : ∃ x1, ∃ x2, ∃ x3, ∃ x4, ∃ x5, A1 x1 x2 x3 x4 x5 ∧ A2 x1 x2 x3 x4 x5 ∧ A3 x1 x2 x3 x4 x5 ∧ Z x1 x2 x3 x4 x5) (k : ∀ x1, ∀ x2, ∀ x3, ∀ x4, ∀ x5, A1 x1 x2 x3 x4 x5 → A2 x1 x2 x3 x4 x5 → A3 x1 x2 x3 x4 x5 → Z x1 x2 x3 x4 x5 → P) : P := by obtain ⟨x1, x2, x3, x4, x5, a1, a2, a3, z⟩ := h; exact k x1 x2 x3 x4 x5 a1 a2 a3 z
theorem oAAAAAAAAA {A1 : Prop} {A2 : Prop} {A3 : Prop} {A4 : Prop} {A5 : Prop} {A6 : Prop} {A7 : Prop} {A8 : Prop} {A9 : Prop} {Z : Prop} {P : Prop} (h : A1 ∧ A2 ∧ A3 ∧ A4 ∧ A5 ∧ A6 ∧ A7 ∧ A8 ∧ A9 ∧ Z) (k : A1 → A2 → A3 → A4 → A5 → A6 → A7 → A8 → A9 → Z → P) : P := by obtain ⟨a1, a2, a3, a4, a5, a6, a7, a8, a9, z⟩ := h; exact k a1 a2 a3 a4 a5 a6 a7 a8 a9 z
theorem oEAAAAAAAA {α1 : Type} {A1 : α1 → Prop} {A2 : α1 → Prop} {A3 : α1 → Prop} {A4 : α1 → Prop} {A5 : α1 → Prop} {A6 : α1 → Prop} {A7 : α1 → Prop} {A8 : α1 → Prop} {Z : α1 → Prop} {P : Prop} (h : ∃ x1, A1 x1 ∧ A2 x1 ∧ A3 x1 ∧ A4 x1 ∧ A5 x1 ∧ A6 x1 ∧ A7 x1 ∧ A8 x1 ∧ Z x1) (k : ∀ x1, A1 x1 → A2 x1 → A3 x1 → A4 x1 → A5 x1 → A6 x1 → A7 x1 → A8 x1 → Z x1 → P) : P := by obtain ⟨x1, a1, a2, a3, a4, a5, a6, a7, a8, z⟩ := h; exact k x1 a1 a2 a3 a4 a5 a6 a7 a8 z
theorem oEEEAAAAAA {α1 α2 α3 : Type} {A1 : α1 → α2 → α3 → Prop} {A2 : α1 → α2 → α3 → Prop} {A3 : α1 → α2 → α3 → Prop} {A4 : α1 → α2 → α3 → Prop} {A5 : α1 → α2 → α3 → Prop} {A6 : α1 → α2 → α3 → Prop} {Z : α1 → α2 → α3 → Prop} {P : Prop} (h : ∃ x1, ∃ x2, ∃ x3, A1 x1 x2 x3 ∧ A2 x1 x2 x3 ∧ A3 x1 x2 x3 ∧ A4 x1 x2 x3 ∧ A5 x1 x2 x3 ∧ A6 x1 x2 x3 ∧ Z x1 x2 x3) (k : ∀ x1, ∀ x2, ∀ x3, A1 x1 x2 x3 → A2 x1 x2 x3 → A3 x1 x2 x3 → A4 x1 x2 x3 → A5 x1 x2 x3 → A6 x1 x2 x3 → Z x1 x2 x3 → P) : P := by obtain ⟨x1, x2, x3, a1, a2, a3, a4, a5, a6, z⟩ := h; exact k x1 x2 x3 a1 a2 a3 a4 a5 a6 z
theorem oEEEAAEAAA {α1 α2 α3 α4 : Type} {A1 : α1 → α2 → α3 → Prop} {A2 : α1 → α2 → α3 → Prop} {A3 : α1 → α2 → α3 → α4 → Prop} {A4 : α1 → α2 → α3 → α4 → Prop} {A5 : α1 → α2 → α3 → α4 → Prop} {Z : α1 → α2 → α3 → α4 → Prop} {P : Prop} (h : ∃ x1, ∃ x2, ∃ x3, A1 x1 x2 x3 ∧ A2 x1 x2 x3 ∧ ∃ x4, A3 x1 x2 x3 x4 ∧ A4 x1 x2 x3 x4 ∧ A5 x1 x2 x3 x4 ∧ Z x1 x2 x3 x4) (k : ∀ x1, ∀ x2, ∀ x3, A1 x1 x2 x3 → A2 x1 x2 x3 → ∀ x4, A3 x1 x2 x3 x4 → A4 x1 x2 x3 x4 → A5 x1 x2 x3 x4 → Z x1 x2 x3 x4 → P) : P := by obtain ⟨x1, x2, x3, a1, a2, x4, a3, a4, a5, z⟩ := h; exact k x1 x2 x3 a1 a2 x4 a3 a4 a5 z
theorem oEEEEEAAAA {α1 α2 α3 α4 α5 : Type} {A1 : α1 → α2 → α3 → α4 → α5 → Prop} {A2 : α1 → α2 → α3 → α4 → α5 → Prop} {A3 : α1 → α2 → α3 → α4 → α5 → Prop} {A4 : α1 → α2 → α3 → α4 → α5 → Prop} {Z : α1 → α2 → α3 → α4 → α5 → Prop} {P : Prop} (h : ∃ x1, ∃ x2, ∃ x3, ∃ x4, ∃ x5, A1 x1 x2 x3 x4 x5 ∧ A2 x1 x2 x3 x4 x5 ∧ A3 x1 x2 x3 x4 x5 ∧ A4 x1 x2 x3 x4 x5 ∧ Z x1 x2 x3 x4 x5) (k : ∀ x1, ∀ x2, ∀ x3, ∀ x4, ∀ x5, A1 x1 x2 x3 x4 x5 → A2 x1 x2 x3 x4 x5 → A3 x1 x2 x3 x4 x5 → A4 x1 x2 x3 x4 x5 → Z x1 x2 x3 x4 x5 → P) : P := by obtain ⟨x1, x2, x3, x4, x5, a1, a2, a3, a4, z⟩ := h; exact k x1 x2 x3 x4 x5 a1 a2 a3 a4 z
theorem oEEEEEAAAE {α1 α2 α3 α4 α5 α6 : Type} {A1 : α1 → α2 → α3 → α4 → α5 → Prop} {A2 : α1 → α2 → α3 → α4 → α5 → Prop} {A3 : α1 → α2 → α3 → α4 → α5 → Prop} {Z : α1 → α2 → α3 → α4 → α5 → α6 → Prop} {P : Prop} (h : ∃ x1, ∃ x2, ∃ x3, ∃ x4, ∃ x5, A1 x1 x2 x3 x4 x5 ∧ A2 x1 x2 x3 x4 x5 ∧ A3 x1 x2 x3 x4 x5 ∧ ∃ x6, Z x1 x2 x3 x4 x5 x6) (k : ∀ x1, ∀ x2, ∀ x3, ∀ x4, ∀ x5, A1 x1 x2 x3 x4 x5 → A2 x1 x2 x3 x4 x5 → A3 x1 x2 x3 x4 x5 → ∀ x6, Z x1 x2 x3 x4 x5 x6 → P) : P := by obtain ⟨x1, x2, x3, x4, x5, a1, a2, a3, x6, z⟩ := h; exact k x1 x2 x3 x4 x5 a1 a2 a3 x6 z
theorem oEEEEEAAEE {α1 α2 α3 α4 α5 α6 α7 : Type} {A1 : α1 → α2 → α3 → α4 → α5 → Prop} {A2 : α1 → α2 → α3 → α4 → α5 → Prop} {Z : α1 → α2 → α3 → α4 → α5 → α6 → α7 → Prop} {P : Prop} (h : ∃ x1, ∃ x2, ∃ x3, ∃ x4, ∃ x5, A1 x1 x2 x3 x4 x5 ∧ A2 x1 x2 x3 x4 x5 ∧ ∃ x6, ∃ x7, Z x1 x2 x3 x4 x5 x6 x7) (k : ∀ x1, ∀ x2, ∀ x3, ∀ x4, ∀ x5, A1 x1 x2 x3 x4 x5 → A2 x1 x2 x3 x4 x5 → ∀ x6, ∀ x7, Z x1 x2 x3 x4 x5 x6 x7 → P) : P := by obtain ⟨x1, x2, x3, x4, x5, a1, a2, x6, x7, z⟩ := h; exact k x1 x2 x3 x4 x5 a1 a2 x6 x7 z
theorem oEEEEEEAAA {α1 α2 α3 α4 α5 α6 : Type} {A1 : α1 → α2 → α3 → α4 → α5 → α6 → Prop} {A2 : α1 → α2 → α3 → α4 → α5 → α6 → Prop} {A3 : α1 → α2 → α3 → α4 → α5 → α6 → Prop} {Z : α1 → α2 → α3 → α4 → α5 → α6 → Prop} {P : Prop} (h : ∃ x1, ∃ x2, ∃ x3, ∃ x4, ∃ x5, ∃ x6, A1 x1 x2 x3 x4 x5 x6 ∧ A2 x1 x2 x3 x4 x5 x6 ∧ A3 x1 x2 x3 x4 x5 x6 ∧ Z x1 x2 x3 x4 x5 x6) (k : ∀ x1, ∀ x2, ∀ x3, ∀ x4, ∀ x5, ∀ x6, A1 x1 x2 x3 x4 x5 x6 → A2 x1 x2 x3 x4 x5 x6 → A3 x1 x2 x3 x4 x5 x6 → Z x1 x2 x3 x4 x5 x6 → P) : P := by obtain ⟨x1, x2, x3, x4, x5, x6, a1, a2, a3, z⟩ := h; exact k x1 x2 x3 x4 x5 x6 a1 a2 a3 z
theorem oEEEEEEEAA {α1 α2 α3 α4 α5 α6 α7 : Type} {A1 : α1 → α2 → α3 → α4 → α5 → α6 → α7 → Prop} {A2 : α1 → α2 → α3 → α4 → α5 → α6 → α7 → Prop} {Z : α1 → α2 → α3 → α4 → α5 → α6 → α7 → Prop} {P : Prop} (h : ∃ x1, ∃ x2, ∃ x3, ∃ x4, ∃ x5, ∃ x6, ∃ x7, A1 x1 x2 x3 x4 x5 x6 x7 ∧ A2 x1 x2 x3 x4 x5 x6 x7 ∧ Z x1 x2 x3 x4 x5 x6 x7) (k : ∀ x1, ∀ x2, ∀ x3, ∀ x4, ∀ x5, ∀ x6, ∀ x7, A1 x1 x2 x3 x4 x5 x6 x7 → A2 x1 x2 x3 x4 x5 x6 x7 → Z x1 x2 x3 x4 x5 x6 x7 → P) : P := by obtain ⟨x1, x2, x3, x4, x5, x6, x7, a1, a2, z⟩ := h; exact k x1 x2 x3 x4 x5 x6 x7 a1 a2 z
theorem oEEEEEEEEA {α1 α2 α3 α4 α5 α6 α7 α8 : Type} {A1 : α1 → α2 → α3 → α4 → α5 → α6 → α7 → α8 → Prop} {Z : α1 → α2 → α3 → α4 → α5 → α6 → α7 → α8 → Prop} {P : Prop} (h : ∃ x1, ∃ x2, ∃ x3, ∃ x4, ∃ x5, ∃ x6, ∃ x7, ∃ x8, A1 x1 x2 x3 x4 x5 x6 x7 x8 ∧ Z x1 x2 x3 x4 x5 x6 x7 x8) (k : ∀ x1, ∀ x2, ∀ x3, ∀ x4, ∀ x5, ∀ x6, ∀ x7, ∀ x8, A1 x1 x2 x3 x4 x5 x6 x7 x8 → Z x1 x2 x3 x4 x5 x6 x7 x8 → P) : P := by obtain ⟨x1, x2, x3, x4, x5, x6, x7, x8, a1, z⟩ := h; exact k x1 x2 x3 x4 x5 x6 x7 x8 a1 z
theorem oEEEEEEEEE {α1 α2 α3 α4 α5 α6 α7 α8 α9 : Type}  {Z : α1 → α2 → α3 → α4 → α5 → α6 → α7 → α8 → α9 → Prop} {P : Prop} (h : ∃ x1, ∃ x2, ∃ x3, ∃ x4, ∃ x5, ∃ x6, ∃ x7, ∃ x8, ∃ x9, Z x1 x2 x3 x4 x5 x6 x7 x8 x9) (k : ∀ x1, ∀ x2, ∀ x3, ∀ x4, ∀ x5, ∀ x6, ∀ x7, ∀ x8, ∀ x9, Z x1 x2 x3 x4 x5 x6 x7 x8 x9 → P) : P := by obtain ⟨x1, x2, x3, x4, x5, x6, x7, x8, x9, z⟩ := h; exact k x1 x2 x3 x4 x5 x6 x7 x8 x9 z
noncomputable def look (P : Params) (a : Addr) : Option Obj := match Nat.blt a 1042 with | true => ((hd.zT P).get a).bind alive | false => none
def TH (P : Params) (h : Heap) : Prop := ∀ a o, look P a = some o → h.get? a = some o
theorem TH.keeps {P : Params} {h h' : Heap} (k : ∀ b o, h.get? b = some o → h'.get? b = some o) (H : TH P h) : TH P h' := fun a o e => k a o (H a o e)
def Kin (K : Params → Frag) : Prop := ∀ P h, TH P h → (K P).In h
theorem Kin.nil : Kin fun _ => [] := fun _ _ _ _ _ e => by cases e
theorem Kin.cons {K : Params → Frag} {a : Addr} {o : Params → Obj} (h : ∀ P, look P a = some (o P)) (k : Kin K) : Kin fun P => (a, o P) :: K P := fun P hp T b x e => by
  simp only [List.lookup] at e
  split at e
  · rename_i q; cases e; rw [beq_iff_eq.mp q]; exact T _ _ (h P)
  · exact k P hp T b x e
abbrev Led := List (Addr × Obj)
abbrev Lc := List (Str × Value)
structure Cx where
  prog : Program
  w : World
  p : Program
  loose : List Str
  mean : ExcName → Option Value
  mg : Str → Option Value
  mb : Str → Option Value
  A : Around
  A₀ : Around
  base : Heap
  g : Heap
  outer : List Env
  qual : Str
  L : Addr
  f : Addr
  cdv : Value
  gens : Array GenState
  drawn : Drawn
  os : OsState
  E : Value → Shared → Prop
abbrev Cx.env (c : Cx) (sc : Scope) : Env := envOf c.qual sc c.L c.f c.cdv
abbrev Cx.sh (c : Cx) (h : Heap) (tk : Nat) : Shared := ⟨h, c.gens, c.drawn, tk, c.os⟩
structure Cx.Ok (c : Cx) (sc : Scope) (k : Nat) : Prop where
  below : Below c.A₀ c.base c.outer c.g
  inK : TH c.w.params c.g
  top : Top c.p c.loose c.mean c.mg c.mb c.g
  frames : c.A.frames = some (c.env sc :: c.outer)
  handled : c.A.handled = none
  kind : sc.kind = .function
  depth : c.A.depth + k < recursionLimit
  units : c.A.units + 8 * k + 64 < cLine
  pass : PassesOwn (model c.prog c.w) c.A (c.env sc) c.E
theorem Cx.Ok.less {c : Cx} {sc : Scope} {k j : Nat} (O : c.Ok sc k) (h : j ≤ k) : c.Ok sc j :=
  ⟨O.below, O.inK, O.top, O.frames, O.handled, O.kind, by have := O.depth; walk_at "o", by have := O.units; walk_at "o", O.pass⟩
def Apart (μ ι : Led) : Prop := (μ.map (·.1)).Nodup ∧ ∀ p ∈ μ, ∀ q ∈ ι, p.1 ≠ q.1
inductive At (x : Str) (v : Value) : Lc → Prop
  | here {m} : At x v ((x, v) :: m)
  | there {y u m} : (y == x) = false → At x v m → At x v ((y, u) :: m)
structure St (c : Cx) (m : Lc) (μ ι : Led) (h : Heap) : Prop where
  F : ∃ mf, Fr c.g c.L h mf ∧ ∀ x v, At x v m → mf x = some v
  N : News c.g c.L h (μ ++ ι)
  D : Apart μ ι
abbrev Po (α : Type) := α → Lc → Led → Led → Prop
def Cx.ans (c : Cx) {α : Type} (Q : Po α) (a : α) (s' : Shared) : Prop := ∃ h' tk' m' μ' ι', s' = c.sh h' tk' ∧ St c m' μ' ι' h' ∧ Q a m' μ' ι'
abbrev bad : Value → Shared → Prop := fun _ _ => False
structure Cx.W (c : Cx) {α : Type} (t : Sem α) (Q : Po α) (m : Lc) (μ ι : Led) : Prop where
  run : ∀ h tk, St c m μ ι h → wpAny (model c.prog c.w) c.A t (c.ans Q) c.E (c.sh h tk)
section
variable {c : Cx} {α β : Type} {Q : Po α} {m : Lc} {μ ι : Led}
theorem W.mono {t : Sem α} {Q' : Po α} (h : c.W t Q m μ ι) (k : ∀ a m' μ' ι', Q a m' μ' ι' → Q' a m' μ' ι') : c.W t Q' m μ ι := by
  refine .mk fun hp tk S => ?_
  refine wpAny_mono (h.run hp tk S) (fun a s' x => ?_) fun _ _ x => x
  refine oEEEEEAA x ?_; clear x; intro h' tk' m' μ' ι' e S' q
  exact ⟨h', tk', m', μ', ι', e, S', k _ _ _ _ q⟩
theorem W.open {t : Sem α} {P : α → Shared → Prop} {s : Shared} (h : wpAny (model c.prog c.w) c.A t (c.ans Q) c.E s)
    (k : ∀ a h' tk' m' μ' ι', St c m' μ' ι' h' → Q a m' μ' ι' → P a (c.sh h' tk')) : wpAny (model c.prog c.w) c.A t P c.E s := by
  refine wpAny_mono h (fun a s' x => ?_) fun _ _ x => x
  refine oEEEEEAA x ?_; clear x; intro h' tk' m' μ' ι' zo5 S' q; obtain rfl := zo5
  exact k _ _ _ _ _ _ S' q
theorem St.same {h : Heap} (S : St c m μ ι h) {a : α} {tk : Nat} (q : Q a m μ ι) : c.ans Q a (c.sh h tk) := ⟨h, tk, m, μ, ι, rfl, S, q⟩
end
section
variable {c : Cx} {sc : Scope} {m : Lc} {μ ι : Led}
theorem W.execs_nil {Q : Po Flow} (q : Q Flow.next m μ ι) : c.W (execs [] (c.env sc)) Q m μ ι := .mk fun _ _ S => wpAny_execs_nil (S.same q)
theorem W.execs_cons {Q : Po Flow} {st : Stmt} {rest : List Stmt} (h : c.W (exec st (c.env sc)) (fun f m' μ' ι' => match f with | .next => c.W (execs rest (c.env sc)) Q m' μ' ι' | f => Q f m' μ' ι') m μ ι) :
    c.W (execs (st :: rest) (c.env sc)) Q m μ ι := .mk fun hp tk S => by
  refine wpAny_execs_cons (W.open (h.run hp tk S) fun f h' tk' m' μ' ι' S' q => ?_)
  cases f
  case next => exact q.run _ _ S'
  all_goals exact S'.same q
theorem St.put {h' : Heap} {x : Str} {v : Value} {mf : Str → Option Value} (F' : Fr c.g c.L h' (fun y => if y = x then some v else mf y)) (hf : ∀ x v, At x v m → mf x = some v) (N' : News c.g c.L h' (μ ++ ι)) (D : Apart μ ι) : St c ((x, v) :: m) μ ι h' := by
  refine ⟨⟨_, F', fun y u a => ?_⟩, N', D⟩
  cases a with
  | here => simp
  | there ne a => simp [Ne.symm (beq_eq_false_iff_ne.mp ne), hf _ _ a]
theorem W.storeName {Q : Po Unit} {x : Str} {v : Value} (hk : sc.kind = .function) (hx : sc.names.lookup x = some .local)
    (q : Q () ((x, v) :: m) μ ι) : c.W (storeName (c.env sc) x v) Q m μ ι := by
  refine .mk fun h tk S => ?_
  obtain ⟨⟨mf, F, hf⟩, N, D⟩ := S
  exact storeX_L (cl := []) (h₀ := c.g) (news := μ ++ ι) F N (fun h' F' N' => ⟨h', tk + 1, _, μ, ι, rfl, .put F' hf N' D, q⟩) hk hx
theorem W.assign {Q : Po Flow} {x : Str} {p pos : Pos} {e : Expr} {rest : List Stmt} (h : c.W (eval e (c.env sc)) (fun v m μ ι => c.W (execs rest (c.env sc)) Q ((x, v) :: m) μ ι) m μ ι)
    (hk : sc.kind = .function := by with_unfolding_all rfl) (hx : sc.names.lookup x = some .local := by kernel_rfl) (hs : swapsWith e (some (.Name x p)) pos.line (c.env sc) = pure false := by with_unfolding_all rfl) :
    c.W (execs (.Assign [.Name x p] e pos :: rest) (c.env sc)) Q m μ ι := by
  refine W.execs_cons <| .mk fun hp tk S => ?_
  refine wpAny_Assign_Name (W.open (h.run hp tk S) fun v h' tk' m' μ' ι' S' q => ?_) hs
  refine W.open ((W.storeName (Q := fun _ m μ ι => c.W (execs rest (c.env sc)) Q m μ ι) hk hx q).run h' tk' S') fun _ _ _ _ _ _ S₂ q₂ => S₂.same (Q := fun f m' μ' ι' => match f with | .next => c.W (execs rest (c.env sc)) Q m' μ' ι' | f => Q f m' μ' ι') (a := Flow.next) q₂
theorem W.ret {Q : Po Flow} {pos : Pos} {e : Expr} {rest : List Stmt} (h : c.W (eval e (c.env sc)) (fun v => Q (Flow.ret v)) m μ ι) : c.W (execs (.Return (some e) pos :: rest) (c.env sc)) Q m μ ι := by
  refine W.execs_cons <| .mk fun hp tk S => wpAny_Return_some (W.open (h.run hp tk S) fun v h' tk' m' μ' ι' S' q => S'.same (Q := fun f m' μ' ι' => match f with | .next => c.W (execs rest (c.env sc)) Q m' μ' ι' | f => Q f m' μ' ι') (a := Flow.ret v) q)
abbrev Cx.then_ (c : Cx) (sc : Scope) (rest : List Stmt) (Q : Po Flow) : Po Flow := fun f m' μ' ι' => match f with | .next => c.W (execs rest (c.env sc)) Q m' μ' ι' | f => Q f m' μ' ι'
theorem W.if_ {Q : Po Flow} {pos : Pos} {e : Expr} {b o rest : List Stmt} (h : c.W (isTrue e (c.env sc) (eval e (c.env sc))) (fun t m μ ι => if t then c.W (execs b (c.env sc)) (c.then_ sc rest Q) m μ ι else c.W (execs o (c.env sc)) (c.then_ sc rest Q) m μ ι) m μ ι) :
    c.W (execs (.If e b o pos :: rest) (c.env sc)) Q m μ ι := by
  refine W.execs_cons <| .mk fun hp tk S => wpAny_If (W.open (h.run hp tk S) fun v h' tk' m' μ' ι' S' q => ?_)
  cases v
  · exact q.run _ _ S'
  · exact q.run _ _ S'
theorem W.expr {Q : Po Flow} {pos : Pos} {e : Expr} {rest : List Stmt} (h : c.W (eval e (c.env sc)) (fun _ => c.W (execs rest (c.env sc)) Q) m μ ι)
    (hk : sc.kind = .function := by with_unfolding_all rfl) (hs : swapsWith e none pos.line (c.env sc) = pure false := by with_unfolding_all rfl) : c.W (execs (.Expr e pos :: rest) (c.env sc)) Q m μ ι := by
  refine W.execs_cons <| .mk fun hp tk S => wpAny_Expr_any (W.open (h.run hp tk S) fun v h' tk' m' μ' ι' S' q => S'.same (Q := c.then_ sc rest Q) (a := Flow.next) q) ?_ hs
  show (sc.kind == .module && _) = false
  rw [hk]; rfl
theorem W.name {Q : Po Value} {x : Str} {pos : Pos} {v : Value} (a : At x v m) (q : Q v m μ ι) (hk : sc.kind = .function := by with_unfolding_all rfl) (hx : sc.names.lookup x = some .local := by kernel_rfl) (hd : (x == ("__debug__" : Str)) = false := by kernel_rfl) :
    c.W (eval (.Name x pos) (c.env sc)) Q m μ ι := .mk fun hp tk S => by
  refine oEA S.F fun mf F hf => ?_
  exact nameX_L (cl := []) F (hf _ _ a) (S.same q) hk hx hd
structure GlobF (x : Str) (v : Value) : Prop where
  ex : ∃ K, Kin K ∧ ∀ P, nsIn (K P) mainGlobals x = some (some v)
structure NoGlobF (x : Str) : Prop where
  ex : ∃ K, Kin K ∧ ∀ P, nsIn (K P) mainGlobals x = some none
theorem W.glob {Q : Po Value} {x : Str} {pos : Pos} {v : Value} {k : Nat} (O : c.Ok sc k) (e : GlobF x v) (q : Q v m μ ι) (hk : sc.kind = .function := by with_unfolding_all rfl) (hx : sc.names.lookup x = some .globalImplicit := by kernel_rfl) (hd : (x == ("__debug__" : Str)) = false := by kernel_rfl) :
    c.W (eval (.Name x pos) (c.env sc)) Q m μ ι := .mk fun hp tk S => by
  refine oEA S.F fun mf F hf => ?_
  refine oEA e.ex fun K X e => ?_
  exact nameX_K (cl := []) F (X _ _ O.inK) (topRead_of O.top) (e _) (S.same q) hk hx hd
theorem W.globB {Q : Po Value} {x : Str} {pos : Pos} {v : Value} {k : Nat} (O : c.Ok sc k) (e : NoGlobF x) (hv : bootBuiltins x = some v) (hn : x ≠ "__name__") (q : Q v m μ ι) (hk : sc.kind = .function := by with_unfolding_all rfl) (hx : sc.names.lookup x = some .globalImplicit := by kernel_rfl) (hd : (x == ("__debug__" : Str)) = false := by kernel_rfl) :
    c.W (eval (.Name x pos) (c.env sc)) Q m μ ι := .mk fun hp tk S => by
  refine oEA S.F fun mf F hf => ?_
  refine oEA e.ex fun K X e => ?_
  exact nameX_B (cl := []) F (X _ _ O.inK) (topRead_of O.top) (e _) hv hn (S.same q) hk hx hd
theorem W.cint {Q : Po Value} {i : Int} {k : Nat} {pos : Pos} (q : ∀ t, Q (.int i t) m μ ι) : c.W (eval (.Constant (.int i) k pos) (c.env sc)) Q m μ ι := .mk fun _ _ S => wpAny_Constant_int (S.same (q _))
theorem W.cstr {Q : Po Value} {x : Str} {k : Nat} {pos : Pos} (q : ∀ t, Q (.str x t) m μ ι) : c.W (eval (.Constant (.str x) k pos) (c.env sc)) Q m μ ι := .mk fun _ _ S => wpAny_Constant_str (S.same (q _))
theorem W.cnone {Q : Po Value} {k : Nat} {pos : Pos} (q : Q .none m μ ι) : c.W (eval (.Constant .none k pos) (c.env sc)) Q m μ ι := .mk fun _ _ S => wpAny_Constant_none (S.same q)
theorem W.cbool {Q : Po Value} {b : Bool} {k : Nat} {pos : Pos} (q : Q (.bool b) m μ ι) : c.W (eval (.Constant (.bool b) k pos) (c.env sc)) Q m μ ι := .mk fun _ _ S => wpAny_Constant_bool (S.same q)
theorem W.isPlain {e : Expr} {Q : Po Bool} (h : c.W (eval e (c.env sc)) (fun v => c.W (truthy v) Q) m μ ι) (he : isTrue e (c.env sc) (eval e (c.env sc)) = (do let v ← eval e (c.env sc); standAt e.pos; holding [v] (truthy v)) := by with_unfolding_all rfl) :
    c.W (isTrue e (c.env sc) (eval e (c.env sc))) Q m μ ι := .mk fun hp tk S => isTrue_plain (W.open (h.run hp tk S) fun _ _ _ _ _ _ S' q => q.run _ _ S') he
theorem W.truthyB {b : Bool} {Q : Po Bool} (q : Q b m μ ι) : c.W (truthy (.bool b)) Q m μ ι := .mk fun _ _ S => wpAny_truthy_bool (S.same q)
theorem W.isNot {e : Expr} {pos : Pos} {whole : Sem Value} {Q : Po Bool} (h : c.W (isTrue e (c.env sc) (eval e (c.env sc))) (fun b => Q (!b)) m μ ι) : c.W (isTrue (.UnaryOp .Not e pos) (c.env sc) whole) Q m μ ι :=
  .mk fun hp tk S => isTrue_not (W.open (h.run hp tk S) fun _ _ _ _ _ _ S' q => S'.same q)
theorem W.isAnd0 {pos : Pos} {whole : Sem Value} {Q : Po Bool} (q : Q true m μ ι) : c.W (isTrue (.BoolOp .And [] pos) (c.env sc) whole) Q m μ ι := .mk fun _ _ S => isTrue_and_nil (S.same q)
theorem W.isOr0 {pos : Pos} {whole : Sem Value} {Q : Po Bool} (q : Q false m μ ι) : c.W (isTrue (.BoolOp .Or [] pos) (c.env sc) whole) Q m μ ι := .mk fun _ _ S => isTrue_or_nil (S.same q)
theorem W.isAnd {x : Expr} {rest : List Expr} {pos : Pos} {whole : Sem Value} {Q : Po Bool}
    (h : c.W (isTrue x (c.env sc) (eval x (c.env sc))) (fun b m μ ι => if b then c.W (isTrue (.BoolOp .And rest pos) (c.env sc) whole) Q m μ ι else Q false m μ ι) m μ ι) : c.W (isTrue (.BoolOp .And (x :: rest) pos) (c.env sc) whole) Q m μ ι :=
  .mk fun hp tk S => isTrue_and (W.open (h.run hp tk S) fun b _ _ _ _ _ S' q => by cases b <;> first | exact q.run _ _ S' | exact S'.same q)
theorem W.isOr {x : Expr} {rest : List Expr} {pos : Pos} {whole : Sem Value} {Q : Po Bool}
    (h : c.W (isTrue x (c.env sc) (eval x (c.env sc))) (fun b m μ ι => if b then Q true m μ ι else c.W (isTrue (.BoolOp .Or rest pos) (c.env sc) whole) Q m μ ι) m μ ι) : c.W (isTrue (.BoolOp .Or (x :: rest) pos) (c.env sc) whole) Q m μ ι :=
  .mk fun hp tk S => isTrue_or (W.open (h.run hp tk S) fun b _ _ _ _ _ S' q => by cases b <;> first | exact q.run _ _ S' | exact S'.same q)
theorem W.isCmp {l r : Expr} {op : CmpOp} {pos : Pos} {whole : Sem Value} {Q : Po Bool}
    (h : c.W (eval l (c.env sc)) (fun a => c.W (eval r (c.env sc)) (fun b => c.W (compareOp op a b) (fun v => c.W (truthy v) Q))) m μ ι) (hm : behindInMarks op r = false := by with_unfolding_all rfl) :
    c.W (isTrue (.Compare l [op] [r] pos) (c.env sc) whole) Q m μ ι :=
  .mk fun hp tk S => wpAny_isTrue_Compare1 (W.open (h.run hp tk S) fun _ _ _ _ _ _ S' q => W.open (q.run _ _ S') fun _ _ _ _ _ _ S' q => W.open (q.run _ _ S') fun _ _ _ _ _ _ S' q => q.run _ _ S') hm
theorem W.cmp {l r : Expr} {op : CmpOp} {pos : Pos} {Q : Po Value}
    (h : c.W (eval l (c.env sc)) (fun a => c.W (eval r (c.env sc)) (fun b => c.W (compareOp op a b) Q)) m μ ι) (hm : behindInMarks op r = false := by with_unfolding_all rfl) :
    c.W (eval (.Compare l [op] [r] pos) (c.env sc)) Q m μ ι :=
  .mk fun hp tk S => wpAny_Compare1 (W.open (h.run hp tk S) fun _ _ _ _ _ _ S' q => W.open (q.run _ _ S') fun _ _ _ _ _ _ S' q => q.run _ _ S') hm
theorem W.binop {l r : Expr} {op : Operator} {pos : Pos} {Q : Po Value}
    (h : c.W (eval l (c.env sc)) (fun a => c.W (eval r (c.env sc)) (fun b => c.W (binaryOp op a b) Q)) m μ ι) : c.W (eval (.BinOp l op r pos) (c.env sc)) Q m μ ι :=
  .mk fun hp tk S => wpAny_BinOp (W.open (h.run hp tk S) fun _ _ _ _ _ _ S' q => W.open (q.run _ _ S') fun _ _ _ _ _ _ S' q => q.run _ _ S')
theorem W.ifExp {t b o : Expr} {pos : Pos} {Q : Po Value}
    (h : c.W (isTrue t (c.env sc) (eval t (c.env sc))) (fun x m μ ι => if x then c.W (eval b (c.env sc)) Q m μ ι else c.W (eval o (c.env sc)) Q m μ ι) m μ ι) : c.W (eval (.IfExp t b o pos) (c.env sc)) Q m μ ι :=
  .mk fun hp tk S => wpAny_IfExp (W.open (h.run hp tk S) fun x _ _ _ _ _ S' q => by cases x <;> exact q.run _ _ S')
theorem W.sub {v i : Expr} {pos : Pos} {Q : Po Value}
    (h : c.W (eval v (c.env sc)) (fun a => c.W (eval i (c.env sc)) (fun b => c.W (subscriptTail v i a b) Q)) m μ ι) : c.W (eval (.Subscript v i pos) (c.env sc)) Q m μ ι :=
  .mk fun hp tk S => Subscript_ (W.open (h.run hp tk S) fun _ _ _ _ _ _ S' q => W.open (q.run _ _ S') fun _ _ _ _ _ _ S' q => q.run _ _ S')
theorem W.attr {x a : Str} {xp pos : Pos} {Q : Po Value} (h : c.W (eval (.Name x xp) (c.env sc)) (fun o => c.W (getAttr o a true) Q) m μ ι) : c.W (eval (.Attribute (.Name x xp) a pos) (c.env sc)) Q m μ ι :=
  .mk fun hp tk S => Attribute_name (W.open (h.run hp tk S) fun _ _ _ _ _ _ S' q => q.run _ _ S')
theorem W.attrA {e : Expr} {a : Str} {pos : Pos} {Q : Po Value} (h : c.W (eval e (c.env sc)) (fun o => c.W (getAttr o a true) Q) m μ ι)
    (he : eval (.Attribute e a pos) (c.env sc) = (do
      let o ← eval e (c.env sc)
      standAt pos.atName
      let r ← holding [o] (getAttr o a true)
      letTemporaryGo e o r
      pure r) := by with_unfolding_all rfl) : c.W (eval (.Attribute e a pos) (c.env sc)) Q m μ ι :=
  .mk fun hp tk S => Attribute_any_ (W.open (h.run hp tk S) fun _ _ _ _ _ _ S' q => q.run _ _ S') he
theorem W.args0 {pos : Pos} {Q : Po (List Value)} (q : Q [] m μ ι) : c.W (spliced (backTo pos (starEach [] (c.env sc)))) Q m μ ι := .mk fun _ _ S => args_nil (S.same q)
theorem W.args {e : Expr} {rest : List Expr} {pos : Pos} {Q : Po (List Value)}
    (h : c.W (eval e (c.env sc)) (fun v => c.W (spliced (backTo pos (starEach rest (c.env sc)))) (fun vs => Q (v :: vs))) m μ ι) (he : starEach (e :: rest) (c.env sc) = (false, eval e (c.env sc)) :: starEach rest (c.env sc) := by with_unfolding_all rfl) :
    c.W (spliced (backTo pos (starEach (e :: rest) (c.env sc)))) Q m μ ι :=
  .mk fun hp tk S => args_cons (W.open (h.run hp tk S) fun _ _ _ _ _ _ S' q => W.open (q.run _ _ S') fun _ _ _ _ _ _ S' q => S'.same q) he
theorem W.call_ {f : Expr} {args : List Expr} {pos : Pos} {Q : Po Value}
    (h : c.W (eval f (c.env sc)) (fun f => c.W (callWith pos f [] (backTo pos (starEach args (c.env sc))) []) Q) m μ ι)
    (he : eval (.Call f args [] pos) (c.env sc) = (do callWith pos (← eval f (c.env sc)) [] (backTo pos (starEach args (c.env sc))) (backToKw pos (keywordEach [] (c.env sc)))) := by with_unfolding_all rfl) : c.W (eval (.Call f args [] pos) (c.env sc)) Q m μ ι :=
  .mk fun hp tk S => Call_ (W.open (h.run hp tk S) fun _ _ _ _ _ _ S' q => q.run _ _ S') he
theorem W.mcall {o : Expr} {nm : Str} {args : List Expr} {apos pos : Pos} {pl : Sem Bool} {Q : Po Value}
    (h : c.W (eval o (c.env sc)) (fun ov => c.W (getMethod ov nm pl) (fun fx => c.W (callWith pos fx.1 fx.2 (backTo pos (starEach args (c.env sc))) []) Q)) m μ ι)
    (he : eval (.Call (.Attribute o nm apos) args [] pos) (c.env sc) = (do
      let ov ← eval o (c.env sc)
      standAt apos.atName
      let (f, first) ← holding [ov] (getMethod ov nm pl)
      callWith pos f first (backTo pos (starEach args (c.env sc))) []) := by with_unfolding_all rfl) : c.W (eval (.Call (.Attribute o nm apos) args [] pos) (c.env sc)) Q m μ ι :=
  .mk fun hp tk S => MethodCall_ (W.open (h.run hp tk S) fun _ _ _ _ _ _ S' q => W.open (q.run _ _ S') fun _ _ _ _ _ _ S' q => q.run _ _ S') he
theorem St.inK {k : Nat} {h : Heap} (S : St c m μ ι h) (O : c.Ok sc k) : TH c.w.params h := by refine oEA S.F fun _ F _ => ?_; exact TH.keeps F.keep O.inK
structure KeepF (f : Value) : Prop where
  ex : ∃ K, Kin K ∧ ∀ P, keepIn (K P) f = true
theorem W.with0 {f : Value} {first : List Value} {pos : Pos} {k : Nat} {Q : Po Value} (O : c.Ok sc k) (hk : KeepF f) (h : c.W (PySem.call f (first ++ [])) Q m μ ι) :
    c.W (callWith pos f first (backTo pos (starEach [] (c.env sc))) []) Q m μ ι := .mk fun hp tk S => by refine oEA hk.ex fun _ X hk => ?_; exact callWith_K0 (X _ _ (S.inK O)) (hk _) (h.run hp tk S)
theorem W.with_ {f : Value} {first : List Value} {e : Expr} {rest : List Expr} {pos : Pos} {k : Nat} {Q : Po Value} (O : c.Ok sc k) (hk : KeepF f)
    (h : c.W (spliced (backTo pos (starEach (e :: rest) (c.env sc)))) (fun vs => c.W (PySem.call f (first ++ vs)) Q) m μ ι)
    (he : starEach (e :: rest) (c.env sc) = (false, eval e (c.env sc)) :: starEach rest (c.env sc) := by with_unfolding_all rfl) (hplain : (backTo pos (starEach rest (c.env sc))).any (·.1) = false := by with_unfolding_all rfl) :
    c.W (callWith pos f first (backTo pos (starEach (e :: rest) (c.env sc))) []) Q m μ ι :=
  .mk fun hp tk S => let ⟨_, X, hk⟩ := hk.ex; callWith_K (X _ _ O.inK) (hk _) (W.open (h.run hp tk S) fun _ _ _ _ _ _ S' q => ⟨X _ _ (S'.inK O), q.run _ _ S'⟩) he hplain
theorem W.with0N {f : Value} {pos : Pos} {k : Nat} {Q : Po Value} (O : c.Ok sc k) (hk : KeepF f) (h : c.W (PySem.call f []) Q m μ ι) : c.W (callWith pos f [] (backTo pos (starEach [] (c.env sc))) []) Q m μ ι := W.with0 O hk h
theorem W.withN {f : Value} {e : Expr} {rest : List Expr} {pos : Pos} {k : Nat} {Q : Po Value} (O : c.Ok sc k) (hk : KeepF f) (h : c.W (spliced (backTo pos (starEach (e :: rest) (c.env sc)))) (fun vs => c.W (PySem.call f vs) Q) m μ ι)
    (he : starEach (e :: rest) (c.env sc) = (false, eval e (c.env sc)) :: starEach rest (c.env sc) := by with_unfolding_all rfl) (hplain : (backTo pos (starEach rest (c.env sc))).any (·.1) = false := by with_unfolding_all rfl) :
    c.W (callWith pos f [] (backTo pos (starEach (e :: rest) (c.env sc))) []) Q m μ ι := W.with_ O hk h he hplain
theorem W.withB0 {id : String} {first : List Value} {pos : Pos} {Q : Po Value} (h : c.W (PySem.call (.builtin id) first) Q m μ ι) :
    c.W (callWith pos (.builtin id) first (backTo pos (starEach [] (c.env sc))) []) Q m μ ι := .mk fun hp tk S => callWith_method0 (h.run hp tk S)
theorem W.withB {id : String} {first : List Value} {e : Expr} {rest : List Expr} {pos : Pos} {Q : Po Value}
    (h : c.W (spliced (backTo pos (starEach (e :: rest) (c.env sc)))) (fun vs => c.W (PySem.call (.builtin id) (first ++ vs)) Q) m μ ι)
    (he : starEach (e :: rest) (c.env sc) = (false, eval e (c.env sc)) :: starEach rest (c.env sc) := by with_unfolding_all rfl) (hplain : (backTo pos (starEach rest (c.env sc))).any (·.1) = false := by with_unfolding_all rfl) :
    c.W (callWith pos (.builtin id) first (backTo pos (starEach (e :: rest) (c.env sc))) []) Q m μ ι :=
  .mk fun hp tk S => callWith_method1 (W.open (h.run hp tk S) fun _ _ _ _ _ _ S' q => q.run _ _ S') he hplain
end
def Flds (es : List DictEntry) (fs : Lc) : Prop := ∀ nm, getL nm es = some (fs.lookup nm)
theorem At.lookup {x : Str} {v : Value} : ∀ {m : Lc}, At x v m → m.lookup x = some v
  | _, .here => by simp [List.lookup]
  | (y, u) :: m, .there ne h => by
    have : (x == y) = false := by rw [beq_eq_false_iff_ne] at ne ⊢; exact Ne.symm ne
    simp [List.lookup, this, h.lookup]
def nowhere (x : Str) (m : Lc) : Bool := m.all fun p => p.1 != x
theorem nowhere.lookup {x : Str} : ∀ {m : Lc}, nowhere x m = true → m.lookup x = none
  | [], _ => rfl
  | (y, u) :: m, h => by
    simp only [nowhere, List.all_cons, Bool.and_eq_true, bne_iff_ne, ne_eq] at h
    have : (x == y) = false := by rw [beq_eq_false_iff_ne]; exact Ne.symm h.1
    simp only [List.lookup, this]
    exact nowhere.lookup (by simpa [nowhere] using h.2)
theorem Flds.nil : Flds [] [] := fun _ => rfl
theorem getL_eq (nm : Str) (es : List DictEntry) : getL nm es = match es.find? (·.key.isStr nm) with | some e => some (some e.val) | none => if es.any (·.refKey) then none else some none := rfl
theorem isStr_eq {v : Value} {a b : Str} (h : v.isStr a = true) : v.isStr b = (a == b) := by
  cases v <;> simp_all [Value.isStr]
theorem putL_find? (nm a : Str) (hsh : Int) (t : Tok) (v : Value) : ∀ es : List DictEntry,
    (putL nm hsh (.str nm t) v es).find? (·.key.isStr a) = if nm = a then (putL nm hsh (.str nm t) v es).find? (·.key.isStr nm) else es.find? (·.key.isStr a)
  | [] => by
    by_cases h : nm = a
    · subst h; simp
    · simp [putL, Value.isStr, h]
  | e :: r => by
    have ih := putL_find? nm a hsh t v r
    by_cases h : nm = a
    · subst h; simp
    · rw [if_neg h] at ih ⊢
      unfold putL
      split
      · rename_i q
        have : e.key.isStr a = false := by rw [isStr_eq q]; simpa using h
        simp [this]
      · simp only [List.find?_cons, ih]
theorem putL_self (nm : Str) (hsh : Int) (t : Tok) (v : Value) : ∀ es : List DictEntry, ∃ e, (putL nm hsh (.str nm t) v es).find? (·.key.isStr nm) = some e ∧ e.val = v
  | [] => ⟨⟨hsh, .str nm t, v⟩, by simp [putL, Value.isStr], rfl⟩
  | e :: r => by
    unfold putL
    split
    · rename_i q; exact ⟨⟨e.hash, e.key, v⟩, by simp [q], rfl⟩
    · rename_i q
      refine oEA (putL_self nm hsh t v r) fun x hx hv => ?_
      exact ⟨x, by simp [q, hx], hv⟩
theorem putL_ref (nm : Str) (hsh : Int) (t : Tok) (v : Value) : ∀ es : List DictEntry, (putL nm hsh (.str nm t) v es).any (·.refKey) = es.any (·.refKey)
  | [] => rfl
  | e :: r => by
    unfold putL
    split
    · simp [DictEntry.refKey]
    · simp [putL_ref nm hsh t v r]
theorem Flds.put {es : List DictEntry} {fs : Lc} (F : Flds es fs) (nm : Str) (hsh : Int) (t : Tok) (v : Value) : Flds (putL nm hsh (.str nm t) v es) ((nm, v) :: fs) := by
  intro a
  have f := F a
  rw [getL_eq] at f ⊢
  rw [putL_find?, putL_ref]
  by_cases h : nm = a
  · subst h
    refine oEA (putL_self nm hsh t v es) fun e he hv => ?_
    simp [he, hv, List.lookup]
  · have h' : (a == nm) = false := by rw [beq_eq_false_iff_ne]; exact Ne.symm h
    simp only [if_neg h, List.lookup, h']
    exact f
theorem Flds.swap {es : List DictEntry} {fs gs : Lc} (F : Flds es fs) (h : ∀ x, gs.lookup x = fs.lookup x) : Flds es gs := fun x => by rw [F x, h x]
theorem Flds.any {es : List DictEntry} {fs : Lc} (F : Flds es fs) (nm : Str) : es.any (·.key.isStr nm) = (fs.lookup nm).isSome := by
  have f := F nm
  rw [getL_eq] at f
  cases h : es.find? (·.key.isStr nm) with
  | some e =>
    rw [h] at f
    simp only [Option.some.injEq] at f
    rw [← f]
    have := List.find?_some h
    simp only [Option.isSome_some]
    exact List.any_eq_true.mpr ⟨e, List.mem_of_find?_eq_some h, this⟩
  | none =>
    rw [h] at f
    have : es.any (·.key.isStr nm) = false := by
      rw [List.find?_eq_none] at h
      simpa using h
    rw [this]
    simp only at f
    cases q : es.any (·.refKey) with
    | true => rw [q] at f; simp at f
    | false => rw [q] at f; simp only [Bool.false_eq_true, if_false, Option.some.injEq] at f; rw [← f]; rfl
structure InstF (n : Led) (v : Value) (C : Addr) (fs : Lc) : Prop where
  ex : ∃ x dx es k, v = .ref x ∧ (x, instObj C dx) ∈ n ∧ (dx, dictOf es k) ∈ n ∧ Flds es fs
theorem InstF.mono {n n' : Led} {v : Value} {C : Addr} {fs : Lc} (I : InstF n v C fs) (h : ∀ p ∈ n, p ∈ n') : InstF n' v C fs := by
  refine oEEEEAAA I.ex fun x dx es k e a b f => ?_; exact ⟨x, dx, es, k, e, h _ a, h _ b, f⟩
theorem Apart.freeze {μ₁ μ₂ ι : Led} {p : Addr × Obj} (h : Apart (μ₁ ++ p :: μ₂) ι) : Apart (μ₁ ++ μ₂) (p :: ι) := by
  obtain ⟨n, d⟩ := h
  have n' : ((μ₁ ++ μ₂).map (·.1)).Nodup ∧ ∀ q ∈ μ₁ ++ μ₂, q.1 ≠ p.1 := by
    rw [List.map_append, List.map_cons, List.nodup_append] at n
    refine oAA n ?_; clear n; intro a b k
    rw [List.nodup_cons] at b
    refine ⟨?_, ?_⟩
    · rw [List.map_append, List.nodup_append]
      exact ⟨a, b.2, fun x hx y hy => k x hx y (.tail _ hy)⟩
    · intro q hq
      rcases List.mem_append.mp hq with hq | hq
      · exact k _ (List.mem_map_of_mem hq) _ (.head _)
      · exact fun e => b.1 (e ▸ List.mem_map_of_mem hq)
  refine ⟨n'.1, fun q hq r hr => ?_⟩
  rcases List.mem_cons.mp hr with rfl | hr
  · exact n'.2 q hq
  · refine d q ?_ r hr
    rcases List.mem_append.mp hq with hq | hq
    · exact List.mem_append.mpr (.inl hq)
    · exact List.mem_append.mpr (.inr (.tail _ hq))
theorem Apart.set {μ₁ μ₂ ι : Led} {a : Addr} {o o' : Obj} (h : Apart (μ₁ ++ (a, o) :: μ₂) ι) : Apart (μ₁ ++ (a, o') :: μ₂) ι := by
  obtain ⟨n, d⟩ := h
  refine ⟨by simpa using n, fun q hq r hr => ?_⟩
  rcases List.mem_append.mp hq with hq | hq
  · exact d q (List.mem_append.mpr (.inl hq)) r hr
  · rcases List.mem_cons.mp hq with rfl | hq
    · exact d (a, o) (List.mem_append.mpr (.inr (.head _))) r hr
    · exact d q (List.mem_append.mpr (.inr (.tail _ hq))) r hr
theorem Apart.ne {μ₁ μ₂ ι : Led} {p : Addr × Obj} (h : Apart (μ₁ ++ p :: μ₂) ι) : (∀ q ∈ μ₁, q.1 ≠ p.1) ∧ ∀ q ∈ μ₂ ++ ι, q.1 ≠ p.1 := by
  have n := h.freeze
  refine ⟨fun q hq => n.2 q (List.mem_append.mpr (.inl hq)) p (.head _), fun q hq => ?_⟩
  rcases List.mem_append.mp hq with hq | hq
  · exact n.2 q (List.mem_append.mpr (.inr hq)) p (.head _)
  · exact fun e => h.2 p (List.mem_append.mpr (.inr (.head _))) q hq e.symm
theorem Apart.newM {μ₁ μ₂ ι : Led} {p : Addr × Obj} (h : Apart (μ₁ ++ μ₂) ι) (l : ∀ q ∈ (μ₁ ++ μ₂) ++ ι, q.1 < p.1) : Apart (μ₁ ++ p :: μ₂) ι := by
  obtain ⟨n, d⟩ := h
  refine ⟨?_, fun q hq r hr => ?_⟩
  · rw [List.map_append, List.nodup_append] at n
    refine oAA n ?_; clear n; intro a b k
    rw [List.map_append, List.map_cons, List.nodup_append, List.nodup_cons]
    refine ⟨a, ⟨fun e => ?_, b⟩, fun x hx y hy => ?_⟩
    · refine oEA (List.mem_map.mp e) fun q hq e => ?_
      exact Nat.ne_of_lt (l q (List.mem_append.mpr (.inl (List.mem_append.mpr (.inr hq))))) e
    · rcases List.mem_cons.mp hy with rfl | hy
      · refine oEA (List.mem_map.mp hx) fun q hq zo2 => ?_; obtain rfl := zo2
        exact Nat.ne_of_lt (l q (List.mem_append.mpr (.inl (List.mem_append.mpr (.inl hq)))))
      · exact k x hx y hy
  · rcases List.mem_append.mp hq with hq | hq
    · exact d q (List.mem_append.mpr (.inl hq)) r hr
    · rcases List.mem_cons.mp hq with rfl | hq
      · exact fun e => Nat.ne_of_lt (l r (List.mem_append.mpr (.inr hr))) e.symm
      · exact d q (List.mem_append.mpr (.inr hq)) r hr
theorem Apart.newI {μ ι : Led} {p : Addr × Obj} (h : Apart μ ι) (l : ∀ q ∈ μ ++ ι, q.1 < p.1) : Apart μ (p :: ι) := by
  refine ⟨h.1, fun q hq r hr => ?_⟩
  rcases List.mem_cons.mp hr with rfl | hr
  · exact Nat.ne_of_lt (l q (List.mem_append.mpr (.inl hq)))
  · exact h.2 q hq r hr
def retOf : Flow → Value
  | .ret v => v
  | _ => .none
structure StF (c : Cx) (mf : Str → Option Value) (μ ι : Led) (h : Heap) : Prop where
  F : Fr c.g c.L h mf
  N : News c.g c.L h (μ ++ ι)
  D : Apart μ ι
structure Spec (k : Nat) (f : Addr) (vs : List Value) (μ ι : Led) (R : Value → Led → Led → Prop) : Prop where
  run : ∀ (c : Cx) (sc : Scope), c.Ok sc k → ∀ (mf : Str → Option Value) (ρ : Led) (Q : Result → Shared → Prop) (h : Heap) (tk : Nat), StF c mf (μ ++ ρ) ι h →
    (∀ r h' tk' μ' ι', StF c mf (μ' ++ ρ) ι' h' → (∀ p ∈ ι, p ∈ ι') → R r μ' ι' → Q (.ok (.ret r)) (c.sh h' tk')) →
    codeAny (model c.prog c.w) c.A (.call (.ref f) ⟨vs, []⟩) Q (c.sh h tk)
def Ends (ι ρ : Led) (R : Value → Led → Led → Prop) : Po Flow := fun fl _ μ' ι' =>
  Apart μ' ι' → ∃ μ'' ι'', (∀ p ∈ (μ'' ++ ρ) ++ ι'', p ∈ μ' ++ ι') ∧ Apart (μ'' ++ ρ) ι'' ∧ (∀ p ∈ ι, p ∈ ι'') ∧ R (retOf fl) μ'' ι''
theorem code2 {f cd : Addr} {a b : Obj} {q : Str} (h : codeIn [(cd, b)] (.ref cd) q = true) (e : cd = f → a = b) : codeIn [(f, a), (cd, b)] (.ref cd) q = true := by
  have z : List.lookup cd [(f, a), (cd, b)] = List.lookup cd [(cd, b)] := by
    by_cases c : cd = f
    · rw [e c, ← c, List.lookup_cons_self, List.lookup_cons_self]
    · show (match cd == f with | true => some a | false => List.lookup cd [(cd, b)]) = _
      rw [beq_eq_false_iff_ne.mpr c]
  delta codeIn at h ⊢
  dsimp only at h ⊢
  rw [z]
  exact h
theorem Spec.intro {k : Nat} {f : Addr} {vs : List Value} {μ ι : Led} {R : Value → Led → Led → Prop} {name qual : Str} {params : Arguments} {body : List Stmt} {sc : Scope} {dV kV doc pm ct oc : Value} {cd : Addr} {an od : Option Addr} {osl : Array (Option Value)} {loc : Lc}
    (ob co : Params → Obj) (ho : ∀ P, look P f = some (ob P)) (hob : ∀ P, ob P = ⟨oc, od, .func (fnOf name qual params body sc dV kV doc pm (an := an) (cdv := .ref cd) ct), osl⟩) (hco' : ∀ P, look P cd = some (co P)) (hcd : ∀ P, codeIn [(cd, co P)] (.ref cd) qual = true)
    (hbind : ∀ (P : Params) (s : Shared), TH P s.heap → BindsTo s (fnOf name qual params body sc dV kV doc pm an (.ref cd) ct) ⟨vs, []⟩ loc.reverse)
    (hloc : (loc.reverse.all fun x => decide (sc.names.lookup x.1 = some .local)) = true)
    (hco : sc.isCoroutine = false) (hgen : sc.isGenerator = false) (hk : sc.kind = .function) (hcell : (sc.names.all fun x => decide (x.2 ≠ .cell)) = true)
    (hb : ∀ (c : Cx) (ρ : Led), c.Ok sc k → c.W (execs body (c.env sc)) (Ends ι ρ R) loc (μ ++ ρ) ι) : Spec (k + 1) f vs μ ι R := by
  refine .mk fun c sc₀ O mf ρ Q h tk S hQ => ?_
  obtain ⟨F, N, D⟩ := S
  have XK : Frag.In [(f, ob c.w.params), (cd, co c.w.params)] c.g := Kin.cons (K := fun P => [(cd, co P)]) ho (Kin.cons hco' Kin.nil) _ _ O.inK
  have hcd' := code2 (hcd c.w.params) (a := ob c.w.params) (f := f) fun q => by subst q; exact Option.some.inj ((ho _).symm.trans (hco' _))
  refine code_def (K := [(f, ob c.w.params), (cd, co c.w.params)]) (cdv := .ref cd) (env := c.env sc₀) (outer := c.outer) (A₀ := c.A₀) (base := c.base) O.below F XK N O.top O.frames rfl O.kind (by simp only [List.lookup, beq_self_eq_true]; exact congrArg some (hob _)) hcd' (by have := O.depth; walk_at "o") (hbind c.w.params _ (TH.keeps F.keep O.inK)) (fun y hy => of_decide_eq_true (List.all_eq_true.mp hloc y hy)) (fun g L' h₁ FG F' N' B' X' T' => ?_) hco hgen hk (fun x hx => of_decide_eq_true (List.all_eq_true.mp hcell x hx))
  let c' : Cx := { c with A := c.A.deeper (envOf qual sc L' f (.ref cd)), A₀ := c.A, base := c.base, g := g, outer := c.env sc₀ :: c.outer, qual := qual, L := L', f := f, cdv := .ref cd, E := bad }
  have O' : c'.Ok sc k := ⟨B', TH.keeps FG.keep O.inK, T', by show (c.A.deeper _).frames = _; rw [Around.frames_deeper O.frames], O.handled, hk, by show c.A.depth + 1 + k < _; have := O.depth; walk_at "o", by show c.A.units + 3 + 8 * k + 64 < _; have := O.units; walk_at "o", PassesOwn.never⟩
  have S' : St c' loc (μ ++ ρ) ι h₁ := ⟨⟨_, F', fun x v a => by rw [List.reverse_reverse]; exact a.lookup⟩, N', D⟩
  refine wpAny_mono ((hb c' ρ O').run h₁ _ S') (fun fl s' x => ?_) fun _ _ x => x.elim
  refine oEEEEEAA x ?_; clear x; intro h' tk' m' μ' ι' zo5 S₂ e; obtain rfl := zo5
  refine oEEAAA (e S₂.D) fun μ'' ι'' hsub hap hι r => ?_
  refine oEA S₂.F fun mf' F₂ _ => ?_
  refine ⟨L', mf', (μ'' ++ ρ) ++ ι'', F₂, fun p hp => S₂.N p (hsub p hp), fun F₃ N₃ => ?_⟩
  have z := hQ _ h' tk' μ'' ι'' ⟨F₃, N₃, hap⟩ hι r
  clear r e S₂
  cases fl <;> exact z
theorem Spec.more {k j : Nat} {f : Addr} {vs : List Value} {μ ι : Led} {R R' : Value → Led → Led → Prop} (s : Spec k f vs μ ι R) (h : k ≤ j) (hr : ∀ r μ' ι', (∀ p ∈ ι, p ∈ ι') → R r μ' ι' → R' r μ' ι') : Spec j f vs μ ι R' :=
  .mk fun c sc O mf ρ Q hp tk S hQ => s.run c sc (O.less h) mf ρ Q hp tk S fun r h' tk' μ' ι' S' hι q => hQ r h' tk' μ' ι' S' hι (hr _ _ _ hι q)
section
variable {c : Cx} {sc : Scope} {m : Lc} {μ ι ρ : Led} {k : Nat}
theorem W.callS {f : Addr} {vs : List Value} {j : Nat} {R : Value → Led → Led → Prop} {Q : Po Value} (s : Spec j f vs μ ι R) (O : c.Ok sc k) (h : j ≤ k) (q : ∀ r μ' ι', (∀ p ∈ ι, p ∈ ι') → R r μ' ι' → Q r m (μ' ++ ρ) ι') :
    c.W (PySem.call (.ref f) vs) Q m (μ ++ ρ) ι := .mk fun hp tk S =>
  let ⟨mf, F, hm⟩ := S.F
  wpAny_call (s.run c sc (O.less h) mf ρ _ hp tk ⟨F, S.N, S.D⟩ fun r h' tk' μ' ι' S' hι r' => St.same ⟨⟨mf, S'.F, hm⟩, S'.N, S'.D⟩ (q _ _ _ hι r'))
theorem W.freeze {α : Type} {t : Sem α} {Q : Po α} {μ₁ μ₂ : Led} {p : Addr × Obj} (h : c.W t Q m (μ₁ ++ μ₂) (p :: ι)) : c.W t Q m (μ₁ ++ p :: μ₂) ι := .mk fun hp tk S => by
  refine h.run hp tk ⟨S.F, fun q hq => S.N q ?_, S.D.freeze⟩
  simp only [List.mem_append, List.mem_cons] at hq ⊢
  rcases hq with (a | a) | a | a <;> simp [a]
def attrOk (K : Frag) (C : Addr) (nm : Str) : Bool := plainGet K C nm && hasDictIn K C && (match findIn K (.ref C) nm with | some a => noGet K a | none => false)
def methOk (K : Frag) (C : Addr) (nm : Str) (f : Addr) : Bool := plainGet K C nm && decide (findIn K (.ref C) nm = some (some (.ref f))) && isFn K (.ref f)
def setOk (K : Frag) (C : Addr) (nm : Str) : Bool := decide (findIn K (.ref C) "__setattr__" = some (some (.builtin "object.__setattr__"))) && plainOver K C && decide (takerIn K C nm = some none) && hasDictIn K C
theorem attrOk.parts {K : Frag} {C : Addr} {nm : Str} (h : attrOk K C nm = true) : plainGet K C nm = true ∧ hasDictIn K C = true ∧ ∃ a, findIn K (.ref C) nm = some a ∧ noGet K a = true := by
  simp only [attrOk, Bool.and_eq_true] at h
  refine ⟨h.1.1, h.1.2, ?_⟩
  have := h.2
  split at this
  · exact ⟨_, by assumption, this⟩
  · cases this
theorem methOk.parts {K : Frag} {C : Addr} {nm : Str} {f : Addr} (h : methOk K C nm f = true) : plainGet K C nm = true ∧ findIn K (.ref C) nm = some (some (.ref f)) ∧ isFn K (.ref f) = true := by
  simp only [methOk, Bool.and_eq_true, decide_eq_true_eq] at h
  exact ⟨h.1.1, h.1.2, h.2⟩
theorem setOk.parts {K : Frag} {C : Addr} {nm : Str} (h : setOk K C nm = true) : findIn K (.ref C) "__setattr__" = some (some (.builtin "object.__setattr__")) ∧ plainOver K C = true ∧ takerIn K C nm = some none ∧ hasDictIn K C = true := by
  simp only [setOk, Bool.and_eq_true, decide_eq_true_eq] at h
  exact ⟨h.1.1.1, h.1.1.2, h.1.2, h.2⟩
structure AttrF (C : Addr) (nm : Str) : Prop where
  ex : ∃ K, Kin K ∧ ∀ P, attrOk (K P) C nm = true
structure MethF (C : Addr) (nm : Str) (f : Addr) : Prop where
  ex : ∃ K, Kin K ∧ ∀ P, methOk (K P) C nm f = true
structure SetF (C : Addr) (nm : Str) : Prop where
  ex : ∃ K, Kin K ∧ ∀ P, setOk (K P) C nm = true
theorem W.fld {v u : Value} {C : Addr} {fs : Lc} {nm : Str} {Q : Po Value} (O : c.Ok sc k) (I : InstF (μ ++ ι) v C fs) (a : At nm u fs) (ok : AttrF C nm) (q : Q u m μ ι) (hh : handedIn u = true := by with_unfolding_all rfl) : c.W (getAttr v nm true) Q m μ ι := .mk fun hp tk S => by
  refine oEEEEAAA I.ex fun x dx es n zo4 h1 h2 f => ?_; obtain rfl := zo4
  refine oEA ok.ex fun K X ok => ?_
  refine oEA S.F fun mf F hf => ?_
  refine oAAEA (attrOk.parts (ok c.w.params)) fun o1 o2 b o3 o4 => ?_
  exact get_own F (X _ _ O.inK) (InstAt.of_news S.N h1 h2) o1 o2 o3 o4 (by rw [f nm, a.lookup]) hh (S.same q)
theorem W.meth {v : Value} {C f : Addr} {fs : Lc} {nm : Str} {pl : Sem Bool} {Q : Po (Value × List Value)} (O : c.Ok sc k) (I : InstF (μ ++ ι) v C fs) (a : nowhere nm fs = true) (ok : MethF C nm f) (q : Q (.ref f, [v]) m μ ι) : c.W (getMethod v nm pl) Q m μ ι := .mk fun hp tk S => by
  refine oEEEEAAA I.ex fun x dx es n zo4 h1 h2 g => ?_; obtain rfl := zo4
  refine oEA ok.ex fun K X ok => ?_
  refine oEA S.F fun mf F hf => ?_
  refine oAA (methOk.parts (ok c.w.params)) fun o1 o2 o3 => ?_
  exact method_inst F (X _ _ O.inK) (InstAt.of_news S.N h1 h2) o1 o2 o3 (by rw [g nm, nowhere.lookup a]) (S.same q)
theorem upd_of {μ₁ μ₂ ι : Led} {a : Addr} {o o' : Obj} (D : Apart (μ₁ ++ (a, o) :: μ₂) ι) : Upd a o o' ((μ₁ ++ (a, o) :: μ₂) ++ ι) ((μ₁ ++ (a, o') :: μ₂) ++ ι) := by
  obtain ⟨n1, n2⟩ := D.ne
  rw [List.append_assoc, List.append_assoc]
  clear D
  induction μ₁ with
  | nil => exact .head n2
  | cons p r ih => exact .tail (n1 p (.head _)) (ih fun q hq => n1 q (.tail _ hq))
theorem putL_len (nm : Str) (hsh : Int) (key v : Value) : ∀ es : List DictEntry, (putL nm hsh key v es).length ≤ es.length + 1
  | [] => by simp [putL]
  | e :: r => by
    unfold putL
    split
    · simp
    · have := putL_len nm hsh key v r; simp only [List.length_cons]; walk_at "o"
def DObj (o : Obj) (fs : Lc) : Prop := ∃ es n, o = dictOf es n ∧ Flds es fs ∧ es.length ≤ fs.length ∧ fs.length ≤ 900
theorem DObj.empty : DObj emptyDict [] := ⟨[], 0, rfl, Flds.nil, Nat.le_refl _, by simp⟩
theorem W.setA {x C dx : Addr} {u : Value} {fs : Lc} {nm : Str} {μ₁ μ₂ : Led} {o : Obj} {Q : Po Unit} (O : c.Ok sc k) (hx : (x, instObj C dx) ∈ (μ₁ ++ (dx, o) :: μ₂) ++ ι) (d : DObj o fs) (ok : SetF C nm)
    (hl : fs.length < 900) (q : ∀ o', DObj o' ((nm, u) :: fs) → Q () m (μ₁ ++ (dx, o') :: μ₂) ι) : c.W (setAttr (.ref x) nm u) Q m (μ₁ ++ (dx, o) :: μ₂) ι := .mk fun hp tk S => by
  refine oEEAAA d ?_; clear d; intro es n zo2 f h1 h2; obtain rfl := zo2
  refine oEA ok.ex fun K X ok => ?_
  refine oEA S.F fun mf F hf => ?_
  refine oAAA (setOk.parts (ok c.w.params)) fun o1 o2 o3 o4 => ?_
  have hlen := putL_len nm (PyData.keyHash c.w.params nm) (.str nm ((c.sh hp tk).toks + 1)) u es
  refine set_dict (K := K c.w.params) (m := mf) F (X _ _ O.inK) S.N (InstAt.of_news S.N hx (List.mem_append.mpr (.inl (List.mem_append.mpr (.inr (.head _)))))) rfl o1 o2 o3 o4 (by rw [f nm]; rfl) rfl (upd_of S.D) (by walk_at "o") fun h' F' N' => ?_
  exact ⟨h', tk + 2, m, _, ι, rfl, ⟨⟨mf, F', hf⟩, N', S.D.set⟩, q _ ⟨_, _, rfl, f.put nm _ _ u, by simp only [List.length_cons]; exact Nat.le_trans hlen (by walk_at "o"), by simp only [List.length_cons]; walk_at "o"⟩⟩
end
structure MakeF (C fI : Addr) : Prop where
  ex : ∃ K, Kin K ∧ ∀ P, makesIn (K P) C = true ∧ findIn (K P) (.ref C) "__init__" = some (some (.ref fI)) ∧ isFn (K P) (.ref fI) = true
theorem under_make (A : Around) (a : Addr) (vs : List Value) : ∃ d u, A.under (.builtin "type.__call__" ⟨.ref a :: vs, []⟩) = { A with depth := A.depth + d, units := A.units + u } ∧ d ≤ 1 ∧ u ≤ 8 := by
  refine ⟨(Code.builtin "type.__call__" ⟨.ref a :: vs, []⟩).weight, (Code.builtin "type.__call__" ⟨.ref a :: vs, []⟩).cUnits, ?_, ?_, ?_⟩
  · rfl
  · exact Nat.le_of_ble_eq_true rfl
  · exact Nat.le_of_ble_eq_true rfl
section
variable {c : Cx} {sc : Scope} {m : Lc} {μ ι ρ : Led} {k : Nat}
def InitR (dx : Addr) (P : Lc → Prop) : Value → Led → Led → Prop := fun r μ' _ => r = .none ∧ ∃ o fs, μ' = [(dx, o)] ∧ DObj o fs ∧ P fs
theorem W.new {C fI : Addr} {vs : List Value} {P : Lc → Prop} {j : Nat} {Q : Po Value} (O : c.Ok sc k) (mk : MakeF C fI) (hj : j + 1 ≤ k)
    (init : ∀ x dx, Spec j fI (.ref x :: vs) [(dx, emptyDict)] ((x, instObj C dx) :: ι) (InitR dx P))
    (q : ∀ v ι' fs, (∀ p ∈ ι, p ∈ ι') → P fs → InstF ι' v C fs → Q v m μ ι') : c.W (PySem.call (.ref C) vs) Q m μ ι := .mk fun hp tk S => by
  refine oEA S.F fun mf F hf' => ?_
  refine oEA mk.ex fun K X mk => ?_
  refine call_cls F (X _ _ O.inK) S.N (mk _).1 (mk _).2.1 (mk _).2.2 fun x dx h' F' N' l1 l2 => ?_
  refine oEEAA (under_make c.A C vs) fun d u e hd hu => ?_
  rw [e]
  let c' : Cx := { c with A := { c.A with depth := c.A.depth + d, units := c.A.units + u }, E := bad }
  have O' : c'.Ok sc j := ⟨O.below, O.inK, O.top, O.frames, O.handled, O.kind, by show c.A.depth + d + j < _; have := O.depth; walk_at "o", by show c.A.units + u + 8 * j + 64 < _; have := O.units; walk_at "o", PassesOwn.never⟩
  have A₁ : Apart (μ ++ []) ι := by rw [List.append_nil]; exact S.D
  have A₂ : Apart ([] ++ (dx, emptyDict) :: μ) ι := Apart.newM (μ₁ := []) S.D l1
  have A₃ : Apart ((dx, emptyDict) :: μ) ((x, instObj C dx) :: ι) := Apart.newI A₂ fun q hq => by
    rcases List.mem_cons.mp hq with rfl | hq
    · exact l2
    · exact Nat.lt_trans (l1 q hq) l2
  have S' : StF c' mf ([(dx, emptyDict)] ++ μ) ((x, instObj C dx) :: ι) h' := ⟨F', fun p hp => N' p (by
    simp only [List.mem_append, List.mem_cons, List.mem_nil_iff, or_false] at hp ⊢
    rcases hp with (rfl | a) | rfl | a <;> first | exact .inr (.inl rfl) | exact .inl rfl | simp [a]), A₃⟩
  refine (init x dx).run c' sc O' mf μ _ h' tk S' fun r h'' tk' μ' ι' S'' hι R => ?_
  refine oAEEAA R ?_; clear R; intro zo0 o fs zo3 zo4 hP; obtain rfl := zo0; obtain rfl := zo3; refine oEEAA zo4 ?_; clear zo4; intro es n zo2 f _; obtain rfl := zo2
  have D := S''.D
  refine ⟨rfl, h'', tk', m, μ, (dx, dictOf es n) :: ι', rfl, ⟨⟨mf, S''.F, hf'⟩, fun p hp => S''.N p ?_, Apart.freeze (μ₁ := []) D⟩, q _ _ _ (fun p hp => .tail _ (hι p (.tail _ hp))) hP ⟨x, dx, es, n, rfl, .tail _ (hι _ (.head _)), .head _, f⟩⟩
  simp only [List.mem_append, List.mem_cons, List.mem_nil_iff, or_false] at hp ⊢
  rcases hp with a | a | a <;> simp [a]
end
section
variable {c : Cx} {sc : Scope} {m : Lc} {μ ι ρ : Led} {k : Nat}
theorem W.asgAttr {o e : Expr} {nm : Str} {p pos : Pos} {rest : List Stmt} {Q : Po Flow} (h : c.W (eval e (c.env sc)) (fun v => c.W (eval o (c.env sc)) (fun ov => c.W (setAttr ov nm v) (fun _ => c.W (execs rest (c.env sc)) Q))) m μ ι)
    (hs : swapsWith e (some (.Attribute o nm p)) pos.line (c.env sc) = pure false := by with_unfolding_all rfl) : c.W (execs (.Assign [.Attribute o nm p] e pos :: rest) (c.env sc)) Q m μ ι := by
  refine W.execs_cons <| .mk fun hp tk S => plainObj_wpAny_Assign_Attribute (W.open (h.run hp tk S) fun _ _ _ _ _ _ S' q => W.open (q.run _ _ S') fun _ _ _ _ _ _ S' q => W.open (q.run _ _ S') fun _ _ _ _ _ _ S' q => S'.same (Q := c.then_ sc rest Q) (a := Flow.next) q) hs
theorem Ends.none {ι ρ : Led} {R : Value → Led → Led → Prop} {μ : Led} {ι' : Led} {m : Lc} {fl : Flow} (hf : retOf fl = .none) (hι : ∀ p ∈ ι, p ∈ ι') (r : R .none μ ι') : Ends ι ρ R fl m (μ ++ ρ) ι' :=
  fun D => ⟨μ, ι', fun _ h => h, D, hι, hf ▸ r⟩
theorem Ends.ret {ι ρ : Led} {R : Value → Led → Led → Prop} {μ : Led} {ι' : Led} {m : Lc} {v : Value} (hι : ∀ p ∈ ι, p ∈ ι') (r : R v μ ι') : Ends ι ρ R (.ret v) m (μ ++ ρ) ι' :=
  fun D => ⟨μ, ι', fun _ h => h, D, hι, r⟩
end
structure ClsF (C : Addr) (K : Params → Frag) : Prop where
  kin : Kin K
  pg : ∀ P, plainGet (K P) C "" = true
  hd : ∀ P, hasDictIn (K P) C = true
  sa : ∀ P, findIn (K P) (.ref C) "__setattr__" = some (some (.builtin "object.__setattr__"))
  po : ∀ P, plainOver (K P) C = true
structure FieldF (C : Addr) (nm : Str) : Prop where
  ex : ∃ K, ClsF C K ∧ ∀ P, findIn (K P) (.ref C) nm = some none
theorem FieldF.attr {C : Addr} {nm : Str} (h : FieldF C nm) : AttrF C nm := by
  refine oEA h.ex fun K c e => ?_
  refine ⟨K, c.kin, fun P => ?_⟩
  have p : plainGet (K P) C nm = true := c.pg P
  have g : noGet (K P) none = true := rfl
  simp [attrOk, p, c.hd P, e P, g]
theorem FieldF.set {C : Addr} {nm : Str} (h : FieldF C nm) : SetF C nm := by
  refine oEA h.ex fun K c e => ?_
  refine ⟨K, c.kin, fun P => ?_⟩
  have g : takerIn (K P) C nm = some none := by
    show Option.bind _ _ = _
    rw [e P]
    rfl
  simp [setOk, c.sa P, c.po P, c.hd P, g]
theorem MethF.of {C : Addr} {nm : Str} {f : Addr} {K : Params → Frag} (c : ClsF C K) (h : ∀ P, findIn (K P) (.ref C) nm = some (some (.ref f))) (hf : ∀ P, isFn (K P) (.ref f) = true) : MethF C nm f := by
  refine ⟨K, c.kin, fun P => ?_⟩
  have p : plainGet (K P) C nm = true := c.pg P
  simp [methOk, p, h P, hf P]
structure ClsMethF (C : Addr) (nm : Str) (f : Addr) : Prop where
  ex : ∃ K mc, Kin K ∧ ∀ P, specialIn (K P) (.ref C) "__getattribute__" = some (some (.builtin "type.__getattribute__")) ∧ typeIn (K P) (.ref C) = some mc ∧ readsIn (K P) C mc = true ∧ findCls (K P) (.ref C) mc nm = some (.val (.ref f))
section
variable {c : Cx} {sc : Scope} {m : Lc} {μ ι ρ : Led} {k : Nat}
theorem W.methC {C f : Addr} {nm : Str} {pl : Sem Bool} {Q : Po (Value × List Value)} (O : c.Ok sc k) (ok : ClsMethF C nm f) (q : Q (.ref f, []) m μ ι) : c.W (getMethod (.ref C) nm pl) Q m μ ι := .mk fun hp tk S => by
  refine oEEA ok.ex fun K mc X h => ?_
  refine oAAA (h c.w.params) fun h1 h2 h3 h4 => ?_
  refine oEA S.F fun mf F hf => ?_
  exact method_of_cls F (X _ _ O.inK) h1 (cls_val F (X _ _ O.inK) h2 h3 h4 rfl (S.same q))
noncomputable def bindK (fd : FuncData) (vs : List Value) : {k : Option (Array Value) → Sem (List (Str × Value)) // bindArgs fd ⟨vs, []⟩ = seqItems? fd.defaults >>= k} := ⟨_, rfl⟩
theorem bindsD {P : Params} {s : Shared} {fd : FuncData} {vs : List Value} {binds : List (Str × Value)} {T : Addr} {o : Obj} {items : Array Value} {n : Nat} (XX : TH P s.heap) (ho : look P T = some o) (hd : fd.defaults = .ref T) (hs : o.data = .seq items n)
    (h₂ : (bindK fd vs).1 (some items) = pure binds) : BindsTo s fd ⟨vs, []⟩ binds := BindsTo.of_defaults hd (XX _ _ ho) hs (bindK fd vs).2 h₂
theorem W.listI {vs : List Value} {Q : Po Value} (hsz : vs.length ≤ sizeLine) (q : ∀ l, Q (.ref l) m μ ((l, listOf vs.toArray 0) :: ι)) : c.W (newList vs) Q m μ ι := .mk fun hp tk S => by
  refine oEA S.F fun mf F hf => ?_
  exact newList_K F S.N (fun l h' F' N' lt => ⟨h', tk, m, μ, _, rfl, ⟨⟨mf, F', hf⟩, fun p hp => N' p (by simp only [List.mem_append, List.mem_cons] at hp ⊢; rcases hp with a | a | a <;> simp [a]), S.D.newI lt⟩, q l⟩) hsz
theorem W.listM {vs : List Value} {Q : Po Value} {μ₁ μ₂ : Led} (hsz : vs.length ≤ sizeLine) (q : ∀ l, Q (.ref l) m (μ₁ ++ (l, listOf vs.toArray 0) :: μ₂) ι) : c.W (newList vs) Q m (μ₁ ++ μ₂) ι := .mk fun hp tk S => by
  refine oEA S.F fun mf F hf => ?_
  exact newList_K F S.N (fun l h' F' N' lt => ⟨h', tk, m, _, ι, rfl, ⟨⟨mf, F', hf⟩, fun p hp => N' p (by simp only [List.mem_append, List.mem_cons] at hp ⊢; rcases hp with (a | a | a) | a <;> simp [a]), S.D.newM lt⟩, q l⟩) hsz
abbrev tupOf (vs : Array Value) : Obj := { cls := .type "tuple", data := .seq vs }
theorem W.tup {vs : List Value} {Q : Po Value} (hsz : vs.length ≤ sizeLine) (q : ∀ l, Q (.ref l) m μ ((l, tupOf vs.toArray) :: ι)) : c.W (newTuple vs) Q m μ ι := .mk fun hp tk S => by
  refine oEA S.F fun mf F hf => ?_
  refine newTuple_N F S.N (fun h' F' N' => ?_) hsz
  exact ⟨h', tk, m, μ, _, rfl, ⟨⟨mf, F', hf⟩, fun p hp => N' p (by simp only [List.mem_append, List.mem_cons] at hp ⊢; rcases hp with a | a | a <;> simp [a]), S.D.newI fun q hq => Heap.lt_size (S.N q hq).1⟩, q _⟩
theorem W.list {es : List Expr} {pos : Pos} {Q : Po Value} (h : c.W (spliced (backTo pos (starEach es (c.env sc)))) (fun vs => c.W (newList vs) Q) m μ ι) : c.W (eval (.List es pos) (c.env sc)) Q m μ ι :=
  .mk fun hp tk S => List_ (W.open (h.run hp tk S) fun _ _ _ _ _ _ S' q => q.run _ _ S')
theorem W.tuple {es : List Expr} {j : Nat} {pos : Pos} {Q : Po Value} (h : c.W (spliced (backTo pos (starEach es (c.env sc)))) (fun vs => c.W (newTuple vs) Q) m μ ι) : c.W (eval (.Tuple es j pos) (c.env sc)) Q m μ ι :=
  .mk fun hp tk S => Tuple_ (W.open (h.run hp tk S) fun _ _ _ _ _ _ S' q => q.run _ _ S')
end
noncomputable def frag (l : List Addr) (P : Params) : Frag := l.filterMap fun a => (look P a).map (a, ·)
theorem kin_frag (l : List Addr) : Kin (frag l) := fun P h' T a o e => T a o (by
  have : ∀ l : List Addr, (frag l P).lookup a = some o → look P a = some o := by
    intro l
    induction l with
    | nil => intro e; cases e
    | cons b l ih =>
      intro e
      unfold frag at e
      rw [List.filterMap_cons] at e
      cases q : look P b with
      | none => rw [q] at e; exact ih e
      | some o' =>
        rw [q] at e
        simp only [Option.map_some, List.lookup] at e
        split at e
        · rename_i q'; cases e; rw [beq_iff_eq.mp q']; exact q
        · exact ih e
  exact this l e)
noncomputable abbrev L_glob : List Addr := [3]
theorem kin_glob : Kin (frag L_glob) := kin_frag _
noncomputable abbrev L_Cursor : List Addr := [174, 173, 84, 91, 98, 105, 112, 127, 135, 143, 150]
theorem cF_Cursor : ClsF 174 (frag L_Cursor) := ⟨kin_frag _, fun P => by kernel_rfl, fun P => by kernel_rfl, fun P => by kernel_rfl, fun P => by kernel_rfl⟩
noncomputable abbrev L_Node : List Addr := [207, 206, 197, 204]
theorem cF_Node : ClsF 207 (frag L_Node) := ⟨kin_frag _, fun P => by kernel_rfl, fun P => by kernel_rfl, fun P => by kernel_rfl, fun P => by kernel_rfl⟩
noncomputable abbrev L_Var : List Addr := [236, 235, 207, 206, 226, 233]
theorem cF_Var : ClsF 236 (frag L_Var) := ⟨kin_frag _, fun P => by kernel_rfl, fun P => by kernel_rfl, fun P => by kernel_rfl, fun P => by kernel_rfl⟩
noncomputable abbrev L_Con : List Addr := [263, 262, 207, 206, 253, 260]
theorem cF_Con : ClsF 263 (frag L_Con) := ⟨kin_frag _, fun P => by kernel_rfl, fun P => by kernel_rfl, fun P => by kernel_rfl, fun P => by kernel_rfl⟩
noncomputable abbrev L_Lit : List Addr := [290, 289, 207, 206, 280, 287]
theorem cF_Lit : ClsF 290 (frag L_Lit) := ⟨kin_frag _, fun P => by kernel_rfl, fun P => by kernel_rfl, fun P => by kernel_rfl, fun P => by kernel_rfl⟩
noncomputable abbrev L_App : List Addr := [317, 316, 207, 206, 307, 314]
theorem cF_App : ClsF 317 (frag L_App) := ⟨kin_frag _, fun P => by kernel_rfl, fun P => by kernel_rfl, fun P => by kernel_rfl, fun P => by kernel_rfl⟩
noncomputable abbrev L_Op : List Addr := [344, 343, 207, 206, 334, 341]
theorem cF_Op : ClsF 344 (frag L_Op) := ⟨kin_frag _, fun P => by kernel_rfl, fun P => by kernel_rfl, fun P => by kernel_rfl, fun P => by kernel_rfl⟩
noncomputable abbrev L_Infix : List Addr := [371, 370, 207, 206, 361, 368]
theorem cF_Infix : ClsF 371 (frag L_Infix) := ⟨kin_frag _, fun P => by kernel_rfl, fun P => by kernel_rfl, fun P => by kernel_rfl, fun P => by kernel_rfl⟩
noncomputable abbrev L_Tuple : List Addr := [398, 397, 207, 206, 388, 395]
theorem cF_Tuple : ClsF 398 (frag L_Tuple) := ⟨kin_frag _, fun P => by kernel_rfl, fun P => by kernel_rfl, fun P => by kernel_rfl, fun P => by kernel_rfl⟩
noncomputable abbrev L_ListOf : List Addr := [425, 424, 207, 206, 415, 422]
theorem cF_ListOf : ClsF 425 (frag L_ListOf) := ⟨kin_frag _, fun P => by kernel_rfl, fun P => by kernel_rfl, fun P => by kernel_rfl, fun P => by kernel_rfl⟩
noncomputable abbrev L_Paren : List Addr := [452, 451, 207, 206, 442, 449]
theorem cF_Paren : ClsF 452 (frag L_Paren) := ⟨kin_frag _, fun P => by kernel_rfl, fun P => by kernel_rfl, fun P => by kernel_rfl, fun P => by kernel_rfl⟩
noncomputable abbrev L_PVar : List Addr := [479, 478, 207, 206, 469, 476]
theorem cF_PVar : ClsF 479 (frag L_PVar) := ⟨kin_frag _, fun P => by kernel_rfl, fun P => by kernel_rfl, fun P => by kernel_rfl, fun P => by kernel_rfl⟩
noncomputable abbrev L_PWild : List Addr := [506, 505, 207, 206, 496, 503]
theorem cF_PWild : ClsF 506 (frag L_PWild) := ⟨kin_frag _, fun P => by kernel_rfl, fun P => by kernel_rfl, fun P => by kernel_rfl, fun P => by kernel_rfl⟩
noncomputable abbrev L_PLit : List Addr := [533, 532, 207, 206, 523, 530]
theorem cF_PLit : ClsF 533 (frag L_PLit) := ⟨kin_frag _, fun P => by kernel_rfl, fun P => by kernel_rfl, fun P => by kernel_rfl, fun P => by kernel_rfl⟩
noncomputable abbrev L_PCon : List Addr := [560, 559, 207, 206, 550, 557]
theorem cF_PCon : ClsF 560 (frag L_PCon) := ⟨kin_frag _, fun P => by kernel_rfl, fun P => by kernel_rfl, fun P => by kernel_rfl, fun P => by kernel_rfl⟩
noncomputable abbrev L_PTuple : List Addr := [587, 586, 207, 206, 577, 584]
theorem cF_PTuple : ClsF 587 (frag L_PTuple) := ⟨kin_frag _, fun P => by kernel_rfl, fun P => by kernel_rfl, fun P => by kernel_rfl, fun P => by kernel_rfl⟩
noncomputable abbrev L_PList : List Addr := [614, 613, 207, 206, 604, 611]
theorem cF_PList : ClsF 614 (frag L_PList) := ⟨kin_frag _, fun P => by kernel_rfl, fun P => by kernel_rfl, fun P => by kernel_rfl, fun P => by kernel_rfl⟩
noncomputable abbrev L_PAs : List Addr := [641, 640, 207, 206, 631, 638]
theorem cF_PAs : ClsF 641 (frag L_PAs) := ⟨kin_frag _, fun P => by kernel_rfl, fun P => by kernel_rfl, fun P => by kernel_rfl, fun P => by kernel_rfl⟩
noncomputable abbrev L_PLazy : List Addr := [668, 667, 207, 206, 658, 665]
theorem cF_PLazy : ClsF 668 (frag L_PLazy) := ⟨kin_frag _, fun P => by kernel_rfl, fun P => by kernel_rfl, fun P => by kernel_rfl, fun P => by kernel_rfl⟩
noncomputable abbrev L_PBang : List Addr := [695, 694, 207, 206, 685, 692]
theorem cF_PBang : ClsF 695 (frag L_PBang) := ⟨kin_frag _, fun P => by kernel_rfl, fun P => by kernel_rfl, fun P => by kernel_rfl, fun P => by kernel_rfl⟩
noncomputable abbrev L_PInfix : List Addr := [722, 721, 207, 206, 712, 719]
theorem cF_PInfix : ClsF 722 (frag L_PInfix) := ⟨kin_frag _, fun P => by kernel_rfl, fun P => by kernel_rfl, fun P => by kernel_rfl, fun P => by kernel_rfl⟩
noncomputable abbrev L_PParen : List Addr := [749, 748, 207, 206, 739, 746]
theorem cF_PParen : ClsF 749 (frag L_PParen) := ⟨kin_frag _, fun P => by kernel_rfl, fun P => by kernel_rfl, fun P => by kernel_rfl, fun P => by kernel_rfl⟩
noncomputable abbrev L_WordRow : List Addr := [905, 904, 874, 881, 888]
theorem cF_WordRow : ClsF 905 (frag L_WordRow) := ⟨kin_frag _, fun P => by kernel_rfl, fun P => by kernel_rfl, fun P => by kernel_rfl, fun P => by kernel_rfl⟩
noncomputable abbrev L_Word : List Addr := [941, 940, 924, 931, 938]
theorem cF_Word : ClsF 941 (frag L_Word) := ⟨kin_frag _, fun P => by kernel_rfl, fun P => by kernel_rfl, fun P => by kernel_rfl, fun P => by kernel_rfl⟩
inductive FT : Addr → Str → Prop
  | Cursor_layout : FT 174 s_layout
  | Cursor_last : FT 174 s_last
  | Node_place : FT 207 s_place
  | Var_place : FT 236 s_place
  | Var_name : FT 236 s_name
  | Var_uses : FT 236 s_uses
  | Con_place : FT 263 s_place
  | Con_name : FT 263 s_name
  | Con_uses : FT 263 s_uses
  | Lit_place : FT 290 s_place
  | Lit_kind : FT 290 s_kind
  | Lit_value : FT 290 s_value
  | App_place : FT 317 s_place
  | App_fun : FT 317 s_fun
  | App_arg : FT 317 s_arg
  | Op_place : FT 344 s_place
  | Op_name : FT 344 s_name
  | Op_is_con : FT 344 s_is_con
  | Infix_place : FT 371 s_place
  | Infix_items : FT 371 s_items
  | Tuple_place : FT 398 s_place
  | Tuple_items : FT 398 s_items
  | ListOf_place : FT 425 s_place
  | ListOf_items : FT 425 s_items
  | Paren_place : FT 452 s_place
  | Paren_expr : FT 452 s_expr
  | PVar_place : FT 479 s_place
  | PVar_name : FT 479 s_name
  | PWild_place : FT 506 s_place
  | PLit_place : FT 533 s_place
  | PLit_kind : FT 533 s_kind
  | PLit_value : FT 533 s_value
  | PCon_place : FT 560 s_place
  | PCon_name : FT 560 s_name
  | PCon_args : FT 560 s_args
  | PTuple_place : FT 587 s_place
  | PTuple_items : FT 587 s_items
  | PList_place : FT 614 s_place
  | PList_items : FT 614 s_items
  | PAs_place : FT 641 s_place
  | PAs_name : FT 641 s_name
  | PAs_pattern : FT 641 s_pattern
  | PLazy_place : FT 668 s_place
  | PLazy_pattern : FT 668 s_pattern
  | PBang_place : FT 695 s_place
  | PBang_pattern : FT 695 s_pattern
  | PInfix_place : FT 722 s_place
  | PInfix_items : FT 722 s_items
  | PParen_place : FT 749 s_place
  | PParen_pattern : FT 749 s_pattern
  | WordRow_words : FT 905 s_words
  | WordRow_end : FT 905 s_end
  | WordRow_at : FT 905 s_at
  | Word_kind : FT 941 s_kind
  | Word_text : FT 941 s_text
  | Word_line : FT 941 s_line
  | Word_column : FT 941 s_column
  | Word_value : FT 941 s_value
  | Word_is_first : FT 941 s_is_first
theorem fF {C : Addr} {nm : Str} (h : FT C nm) : FieldF C nm := FT.rec (motive := fun C nm _ => FieldF C nm)
  (⟨_, cF_Cursor, fun P => by kernel_rfl⟩)
  (⟨_, cF_Cursor, fun P => by kernel_rfl⟩)
  (⟨_, cF_Node, fun P => by kernel_rfl⟩)
  (⟨_, cF_Var, fun P => by kernel_rfl⟩)
  (⟨_, cF_Var, fun P => by kernel_rfl⟩)
  (⟨_, cF_Var, fun P => by kernel_rfl⟩)
  (⟨_, cF_Con, fun P => by kernel_rfl⟩)
  (⟨_, cF_Con, fun P => by kernel_rfl⟩)
  (⟨_, cF_Con, fun P => by kernel_rfl⟩)
  (⟨_, cF_Lit, fun P => by kernel_rfl⟩)
  (⟨_, cF_Lit, fun P => by kernel_rfl⟩)
  (⟨_, cF_Lit, fun P => by kernel_rfl⟩)
  (⟨_, cF_App, fun P => by kernel_rfl⟩)
  (⟨_, cF_App, fun P => by kernel_rfl⟩)
  (⟨_, cF_App, fun P => by kernel_rfl⟩)
  (⟨_, cF_Op, fun P => by kernel_rfl⟩)
  (⟨_, cF_Op, fun P => by kernel_rfl⟩)
  (⟨_, cF_Op, fun P => by kernel_rfl⟩)
  (⟨_, cF_Infix, fun P => by kernel_rfl⟩)
  (⟨_, cF_Infix, fun P => by kernel_rfl⟩)
  (⟨_, cF_Tuple, fun P => by kernel_rfl⟩)
  (⟨_, cF_Tuple, fun P => by kernel_rfl⟩)
  (⟨_, cF_ListOf, fun P => by kernel_rfl⟩)
  (⟨_, cF_ListOf, fun P => by kernel_rfl⟩)
  (⟨_, cF_Paren, fun P => by kernel_rfl⟩)
  (⟨_, cF_Paren, fun P => by kernel_rfl⟩)
  (⟨_, cF_PVar, fun P => by kernel_rfl⟩)
  (⟨_, cF_PVar, fun P => by kernel_rfl⟩)
  (⟨_, cF_PWild, fun P => by kernel_rfl⟩)
  (⟨_, cF_PLit, fun P => by kernel_rfl⟩)
  (⟨_, cF_PLit, fun P => by kernel_rfl⟩)
  (⟨_, cF_PLit, fun P => by kernel_rfl⟩)
  (⟨_, cF_PCon, fun P => by kernel_rfl⟩)
  (⟨_, cF_PCon, fun P => by kernel_rfl⟩)
  (⟨_, cF_PCon, fun P => by kernel_rfl⟩)
  (⟨_, cF_PTuple, fun P => by kernel_rfl⟩)
  (⟨_, cF_PTuple, fun P => by kernel_rfl⟩)
  (⟨_, cF_PList, fun P => by kernel_rfl⟩)
  (⟨_, cF_PList, fun P => by kernel_rfl⟩)
  (⟨_, cF_PAs, fun P => by kernel_rfl⟩)
  (⟨_, cF_PAs, fun P => by kernel_rfl⟩)
  (⟨_, cF_PAs, fun P => by kernel_rfl⟩)
  (⟨_, cF_PLazy, fun P => by kernel_rfl⟩)
  (⟨_, cF_PLazy, fun P => by kernel_rfl⟩)
  (⟨_, cF_PBang, fun P => by kernel_rfl⟩)
  (⟨_, cF_PBang, fun P => by kernel_rfl⟩)
  (⟨_, cF_PInfix, fun P => by kernel_rfl⟩)
  (⟨_, cF_PInfix, fun P => by kernel_rfl⟩)
  (⟨_, cF_PParen, fun P => by kernel_rfl⟩)
  (⟨_, cF_PParen, fun P => by kernel_rfl⟩)
  (⟨_, cF_WordRow, fun P => by kernel_rfl⟩)
  (⟨_, cF_WordRow, fun P => by kernel_rfl⟩)
  (⟨_, cF_WordRow, fun P => by kernel_rfl⟩)
  (⟨_, cF_Word, fun P => by kernel_rfl⟩)
  (⟨_, cF_Word, fun P => by kernel_rfl⟩)
  (⟨_, cF_Word, fun P => by kernel_rfl⟩)
  (⟨_, cF_Word, fun P => by kernel_rfl⟩)
  (⟨_, cF_Word, fun P => by kernel_rfl⟩)
  (⟨_, cF_Word, fun P => by kernel_rfl⟩) h
inductive MT : Addr → Str → Addr → Prop
  | Cursor_peek : MT 174 s_peek 91
  | Cursor_next : MT 174 s_next 98
  | Cursor_place : MT 174 s_place 105
  | Cursor_behind : MT 174 s_behind 112
  | Cursor_is_at : MT 174 s_is_at 127
  | Cursor_take : MT 174 s_take 135
  | Cursor_want : MT 174 s_want 143
  | Cursor_refuse : MT 174 s_refuse 150
  | Node_row : MT 207 s_row 204
  | Var_row : MT 236 s_row 233
  | Con_row : MT 263 s_row 260
  | Lit_row : MT 290 s_row 287
  | App_row : MT 317 s_row 314
  | Op_row : MT 344 s_row 341
  | Infix_row : MT 371 s_row 368
  | Tuple_row : MT 398 s_row 395
  | ListOf_row : MT 425 s_row 422
  | Paren_row : MT 452 s_row 449
  | PVar_row : MT 479 s_row 476
  | PWild_row : MT 506 s_row 503
  | PLit_row : MT 533 s_row 530
  | PCon_row : MT 560 s_row 557
  | PTuple_row : MT 587 s_row 584
  | PList_row : MT 614 s_row 611
  | PAs_row : MT 641 s_row 638
  | PLazy_row : MT 668 s_row 665
  | PBang_row : MT 695 s_row 692
  | PInfix_row : MT 722 s_row 719
  | PParen_row : MT 749 s_row 746
  | WordRow_peek : MT 905 s_peek 881
  | WordRow_next : MT 905 s_next 888
  | Word_place : MT 941 s_place 931
  | Word_is_word : MT 941 s_is_word 938
theorem mF {C : Addr} {nm : Str} {f : Addr} (h : MT C nm f) : MethF C nm f := MT.rec (motive := fun C nm f _ => MethF C nm f)
  (.of cF_Cursor (fun P => by kernel_rfl) (fun P => by kernel_rfl))
  (.of cF_Cursor (fun P => by kernel_rfl) (fun P => by kernel_rfl))
  (.of cF_Cursor (fun P => by kernel_rfl) (fun P => by kernel_rfl))
  (.of cF_Cursor (fun P => by kernel_rfl) (fun P => by kernel_rfl))
  (.of cF_Cursor (fun P => by kernel_rfl) (fun P => by kernel_rfl))
  (.of cF_Cursor (fun P => by kernel_rfl) (fun P => by kernel_rfl))
  (.of cF_Cursor (fun P => by kernel_rfl) (fun P => by kernel_rfl))
  (.of cF_Cursor (fun P => by kernel_rfl) (fun P => by kernel_rfl))
  (.of cF_Node (fun P => by kernel_rfl) (fun P => by kernel_rfl))
  (.of cF_Var (fun P => by kernel_rfl) (fun P => by kernel_rfl))
  (.of cF_Con (fun P => by kernel_rfl) (fun P => by kernel_rfl))
  (.of cF_Lit (fun P => by kernel_rfl) (fun P => by kernel_rfl))
  (.of cF_App (fun P => by kernel_rfl) (fun P => by kernel_rfl))
  (.of cF_Op (fun P => by kernel_rfl) (fun P => by kernel_rfl))
  (.of cF_Infix (fun P => by kernel_rfl) (fun P => by kernel_rfl))
  (.of cF_Tuple (fun P => by kernel_rfl) (fun P => by kernel_rfl))
  (.of cF_ListOf (fun P => by kernel_rfl) (fun P => by kernel_rfl))
  (.of cF_Paren (fun P => by kernel_rfl) (fun P => by kernel_rfl))
  (.of cF_PVar (fun P => by kernel_rfl) (fun P => by kernel_rfl))
  (.of cF_PWild (fun P => by kernel_rfl) (fun P => by kernel_rfl))
  (.of cF_PLit (fun P => by kernel_rfl) (fun P => by kernel_rfl))
  (.of cF_PCon (fun P => by kernel_rfl) (fun P => by kernel_rfl))
  (.of cF_PTuple (fun P => by kernel_rfl) (fun P => by kernel_rfl))
  (.of cF_PList (fun P => by kernel_rfl) (fun P => by kernel_rfl))
  (.of cF_PAs (fun P => by kernel_rfl) (fun P => by kernel_rfl))
  (.of cF_PLazy (fun P => by kernel_rfl) (fun P => by kernel_rfl))
  (.of cF_PBang (fun P => by kernel_rfl) (fun P => by kernel_rfl))
  (.of cF_PInfix (fun P => by kernel_rfl) (fun P => by kernel_rfl))
  (.of cF_PParen (fun P => by kernel_rfl) (fun P => by kernel_rfl))
  (.of cF_WordRow (fun P => by kernel_rfl) (fun P => by kernel_rfl))
  (.of cF_WordRow (fun P => by kernel_rfl) (fun P => by kernel_rfl))
  (.of cF_Word (fun P => by kernel_rfl) (fun P => by kernel_rfl))
  (.of cF_Word (fun P => by kernel_rfl) (fun P => by kernel_rfl)) h
inductive NT : Addr → Addr → Prop
  | Cursor : NT 174 84
  | Node : NT 207 197
  | Var : NT 236 226
  | Con : NT 263 253
  | Lit : NT 290 280
  | App : NT 317 307
  | Op : NT 344 334
  | Infix : NT 371 361
  | Tuple : NT 398 388
  | ListOf : NT 425 415
  | Paren : NT 452 442
  | PVar : NT 479 469
  | PWild : NT 506 496
  | PLit : NT 533 523
  | PCon : NT 560 550
  | PTuple : NT 587 577
  | PList : NT 614 604
  | PAs : NT 641 631
  | PLazy : NT 668 658
  | PBang : NT 695 685
  | PInfix : NT 722 712
  | PParen : NT 749 739
  | WordRow : NT 905 874
  | Word : NT 941 924
theorem nF {C f : Addr} (h : NT C f) : MakeF C f := NT.rec (motive := fun C f _ => MakeF C f)
  (⟨_, cF_Cursor.kin, fun P => ⟨by kernel_rfl, by kernel_rfl, by kernel_rfl⟩⟩)
  (⟨_, cF_Node.kin, fun P => ⟨by kernel_rfl, by kernel_rfl, by kernel_rfl⟩⟩)
  (⟨_, cF_Var.kin, fun P => ⟨by kernel_rfl, by kernel_rfl, by kernel_rfl⟩⟩)
  (⟨_, cF_Con.kin, fun P => ⟨by kernel_rfl, by kernel_rfl, by kernel_rfl⟩⟩)
  (⟨_, cF_Lit.kin, fun P => ⟨by kernel_rfl, by kernel_rfl, by kernel_rfl⟩⟩)
  (⟨_, cF_App.kin, fun P => ⟨by kernel_rfl, by kernel_rfl, by kernel_rfl⟩⟩)
  (⟨_, cF_Op.kin, fun P => ⟨by kernel_rfl, by kernel_rfl, by kernel_rfl⟩⟩)
  (⟨_, cF_Infix.kin, fun P => ⟨by kernel_rfl, by kernel_rfl, by kernel_rfl⟩⟩)
  (⟨_, cF_Tuple.kin, fun P => ⟨by kernel_rfl, by kernel_rfl, by kernel_rfl⟩⟩)
  (⟨_, cF_ListOf.kin, fun P => ⟨by kernel_rfl, by kernel_rfl, by kernel_rfl⟩⟩)
  (⟨_, cF_Paren.kin, fun P => ⟨by kernel_rfl, by kernel_rfl, by kernel_rfl⟩⟩)
  (⟨_, cF_PVar.kin, fun P => ⟨by kernel_rfl, by kernel_rfl, by kernel_rfl⟩⟩)
  (⟨_, cF_PWild.kin, fun P => ⟨by kernel_rfl, by kernel_rfl, by kernel_rfl⟩⟩)
  (⟨_, cF_PLit.kin, fun P => ⟨by kernel_rfl, by kernel_rfl, by kernel_rfl⟩⟩)
  (⟨_, cF_PCon.kin, fun P => ⟨by kernel_rfl, by kernel_rfl, by kernel_rfl⟩⟩)
  (⟨_, cF_PTuple.kin, fun P => ⟨by kernel_rfl, by kernel_rfl, by kernel_rfl⟩⟩)
  (⟨_, cF_PList.kin, fun P => ⟨by kernel_rfl, by kernel_rfl, by kernel_rfl⟩⟩)
  (⟨_, cF_PAs.kin, fun P => ⟨by kernel_rfl, by kernel_rfl, by kernel_rfl⟩⟩)
  (⟨_, cF_PLazy.kin, fun P => ⟨by kernel_rfl, by kernel_rfl, by kernel_rfl⟩⟩)
  (⟨_, cF_PBang.kin, fun P => ⟨by kernel_rfl, by kernel_rfl, by kernel_rfl⟩⟩)
  (⟨_, cF_PInfix.kin, fun P => ⟨by kernel_rfl, by kernel_rfl, by kernel_rfl⟩⟩)
  (⟨_, cF_PParen.kin, fun P => ⟨by kernel_rfl, by kernel_rfl, by kernel_rfl⟩⟩)
  (⟨_, cF_WordRow.kin, fun P => ⟨by kernel_rfl, by kernel_rfl, by kernel_rfl⟩⟩)
  (⟨_, cF_Word.kin, fun P => ⟨by kernel_rfl, by kernel_rfl, by kernel_rfl⟩⟩) h
inductive GT : Str → Value → Prop
  | Cursor : GT s_Cursor (.ref 174)
  | Node : GT s_Node (.ref 207)
  | Var : GT s_Var (.ref 236)
  | Con : GT s_Con (.ref 263)
  | Lit : GT s_Lit (.ref 290)
  | App : GT s_App (.ref 317)
  | Op : GT s_Op (.ref 344)
  | Infix : GT s_Infix (.ref 371)
  | Tuple : GT s_Tuple (.ref 398)
  | ListOf : GT s_ListOf (.ref 425)
  | Paren : GT s_Paren (.ref 452)
  | PVar : GT s_PVar (.ref 479)
  | PWild : GT s_PWild (.ref 506)
  | PLit : GT s_PLit (.ref 533)
  | PCon : GT s_PCon (.ref 560)
  | PTuple : GT s_PTuple (.ref 587)
  | PList : GT s_PList (.ref 614)
  | PAs : GT s_PAs (.ref 641)
  | PLazy : GT s_PLazy (.ref 668)
  | PBang : GT s_PBang (.ref 695)
  | PInfix : GT s_PInfix (.ref 722)
  | PParen : GT s_PParen (.ref 749)
  | WordRow : GT s_WordRow (.ref 905)
  | Word : GT s_Word (.ref 941)
  | full_name : GT s_full_name (.ref 70)
  | rows_of : GT s_rows_of (.ref 183)
  | read_pattern_at : GT s_read_pattern_at (.ref 759)
  | is_con_operator : GT s_is_con_operator (.ref 766)
  | read_con_operator : GT s_read_con_operator (.ref 773)
  | read_part : GT s_read_part (.ref 780)
  | read_con_name : GT s_read_con_name (.ref 787)
  | is_con_symbol : GT s_is_con_symbol (.ref 794)
  | is_pattern_atom : GT s_is_pattern_atom (.ref 801)
  | read_atom_pattern : GT s_read_atom_pattern (.ref 808)
  | read_several : GT s_read_several (.ref 815)
  | read_list_pattern : GT s_read_list_pattern (.ref 822)
  | read_bracketed_pattern : GT s_read_bracketed_pattern (.ref 829)
  | is_plain_name : GT s_is_plain_name (.ref 836)
  | pattern_of : GT s_pattern_of (.ref 841)
  | applied_pattern : GT s_applied_pattern (.ref 846)
  | infix_pattern : GT s_infix_pattern (.ref 853)
  | con_operator : GT s_con_operator (.ref 860)
  | law_brook : GT l_brook (.ref 952)
  | law_cup : GT l_cup (.ref 959)
  | law_sign : GT l_sign (.ref 966)
  | law_number : GT l_number (.ref 973)
  | law_operator : GT l_operator (.ref 980)
  | law_whole : GT l_whole (.ref 987)
  | law_listed : GT l_listed (.ref 994)
  | law_atom : GT l_atom (.ref 1001)
  | law_part : GT l_part (.ref 1008)
  | law_pattern : GT l_pattern (.ref 1015)
  | law_read : GT l_read (.ref 1022)
  | law_turned : GT l_turned (.ref 1029)
  | law_fixed_right : GT l_fixed_right (.ref 1034)
  | law : GT s_law (.ref 1041)
  | LITERALS : GT s_LITERALS (.ref 752)
theorem gF {x : Str} {v : Value} (h : GT x v) : GlobF x v := GT.rec (motive := fun x v _ => GlobF x v)
  (⟨_, kin_glob, fun P => by kernel_rfl⟩)
  (⟨_, kin_glob, fun P => by kernel_rfl⟩)
  (⟨_, kin_glob, fun P => by kernel_rfl⟩)
  (⟨_, kin_glob, fun P => by kernel_rfl⟩)
  (⟨_, kin_glob, fun P => by kernel_rfl⟩)
  (⟨_, kin_glob, fun P => by kernel_rfl⟩)
  (⟨_, kin_glob, fun P => by kernel_rfl⟩)
  (⟨_, kin_glob, fun P => by kernel_rfl⟩)
  (⟨_, kin_glob, fun P => by kernel_rfl⟩)
  (⟨_, kin_glob, fun P => by kernel_rfl⟩)
  (⟨_, kin_glob, fun P => by kernel_rfl⟩)
  (⟨_, kin_glob, fun P => by kernel_rfl⟩)
  (⟨_, kin_glob, fun P => by kernel_rfl⟩)
  (⟨_, kin_glob, fun P => by kernel_rfl⟩)
  (⟨_, kin_glob, fun P => by kernel_rfl⟩)
  (⟨_, kin_glob, fun P => by kernel_rfl⟩)
  (⟨_, kin_glob, fun P => by kernel_rfl⟩)
  (⟨_, kin_glob, fun P => by kernel_rfl⟩)
  (⟨_, kin_glob, fun P => by kernel_rfl⟩)
  (⟨_, kin_glob, fun P => by kernel_rfl⟩)
  (⟨_, kin_glob, fun P => by kernel_rfl⟩)
  (⟨_, kin_glob, fun P => by kernel_rfl⟩)
  (⟨_, kin_glob, fun P => by kernel_rfl⟩)
  (⟨_, kin_glob, fun P => by kernel_rfl⟩)
  (⟨_, kin_glob, fun P => by kernel_rfl⟩)
  (⟨_, kin_glob, fun P => by kernel_rfl⟩)
  (⟨_, kin_glob, fun P => by kernel_rfl⟩)
  (⟨_, kin_glob, fun P => by kernel_rfl⟩)
  (⟨_, kin_glob, fun P => by kernel_rfl⟩)
  (⟨_, kin_glob, fun P => by kernel_rfl⟩)
  (⟨_, kin_glob, fun P => by kernel_rfl⟩)
  (⟨_, kin_glob, fun P => by kernel_rfl⟩)
  (⟨_, kin_glob, fun P => by kernel_rfl⟩)
  (⟨_, kin_glob, fun P => by kernel_rfl⟩)
  (⟨_, kin_glob, fun P => by kernel_rfl⟩)
  (⟨_, kin_glob, fun P => by kernel_rfl⟩)
  (⟨_, kin_glob, fun P => by kernel_rfl⟩)
  (⟨_, kin_glob, fun P => by kernel_rfl⟩)
  (⟨_, kin_glob, fun P => by kernel_rfl⟩)
  (⟨_, kin_glob, fun P => by kernel_rfl⟩)
  (⟨_, kin_glob, fun P => by kernel_rfl⟩)
  (⟨_, kin_glob, fun P => by kernel_rfl⟩)
  (⟨_, kin_glob, fun P => by kernel_rfl⟩)
  (⟨_, kin_glob, fun P => by kernel_rfl⟩)
  (⟨_, kin_glob, fun P => by kernel_rfl⟩)
  (⟨_, kin_glob, fun P => by kernel_rfl⟩)
  (⟨_, kin_glob, fun P => by kernel_rfl⟩)
  (⟨_, kin_glob, fun P => by kernel_rfl⟩)
  (⟨_, kin_glob, fun P => by kernel_rfl⟩)
  (⟨_, kin_glob, fun P => by kernel_rfl⟩)
  (⟨_, kin_glob, fun P => by kernel_rfl⟩)
  (⟨_, kin_glob, fun P => by kernel_rfl⟩)
  (⟨_, kin_glob, fun P => by kernel_rfl⟩)
  (⟨_, kin_glob, fun P => by kernel_rfl⟩)
  (⟨_, kin_glob, fun P => by kernel_rfl⟩)
  (⟨_, kin_glob, fun P => by kernel_rfl⟩)
  (⟨_, kin_glob, fun P => by kernel_rfl⟩) h
inductive KT : Value → Prop
  | Cursor_peek : KT (.ref 91)
  | Cursor_next : KT (.ref 98)
  | Cursor_place : KT (.ref 105)
  | Cursor_behind : KT (.ref 112)
  | Cursor_is_at : KT (.ref 127)
  | Cursor_take : KT (.ref 135)
  | Cursor_want : KT (.ref 143)
  | Cursor_refuse : KT (.ref 150)
  | Cursor : KT (.ref 174)
  | Node_row : KT (.ref 204)
  | Node : KT (.ref 207)
  | Var_row : KT (.ref 233)
  | Var : KT (.ref 236)
  | Con_row : KT (.ref 260)
  | Con : KT (.ref 263)
  | Lit_row : KT (.ref 287)
  | Lit : KT (.ref 290)
  | App_row : KT (.ref 314)
  | App : KT (.ref 317)
  | Op_row : KT (.ref 341)
  | Op : KT (.ref 344)
  | Infix_row : KT (.ref 368)
  | Infix : KT (.ref 371)
  | Tuple_row : KT (.ref 395)
  | Tuple : KT (.ref 398)
  | ListOf_row : KT (.ref 422)
  | ListOf : KT (.ref 425)
  | Paren_row : KT (.ref 449)
  | Paren : KT (.ref 452)
  | PVar_row : KT (.ref 476)
  | PVar : KT (.ref 479)
  | PWild_row : KT (.ref 503)
  | PWild : KT (.ref 506)
  | PLit_row : KT (.ref 530)
  | PLit : KT (.ref 533)
  | PCon_row : KT (.ref 557)
  | PCon : KT (.ref 560)
  | PTuple_row : KT (.ref 584)
  | PTuple : KT (.ref 587)
  | PList_row : KT (.ref 611)
  | PList : KT (.ref 614)
  | PAs_row : KT (.ref 638)
  | PAs : KT (.ref 641)
  | PLazy_row : KT (.ref 665)
  | PLazy : KT (.ref 668)
  | PBang_row : KT (.ref 692)
  | PBang : KT (.ref 695)
  | PInfix_row : KT (.ref 719)
  | PInfix : KT (.ref 722)
  | PParen_row : KT (.ref 746)
  | PParen : KT (.ref 749)
  | WordRow_peek : KT (.ref 881)
  | WordRow_next : KT (.ref 888)
  | WordRow : KT (.ref 905)
  | Word_place : KT (.ref 931)
  | Word_is_word : KT (.ref 938)
  | Word : KT (.ref 941)
  | full_name : KT (.ref 70)
  | rows_of : KT (.ref 183)
  | read_pattern_at : KT (.ref 759)
  | is_con_operator : KT (.ref 766)
  | read_con_operator : KT (.ref 773)
  | read_part : KT (.ref 780)
  | read_con_name : KT (.ref 787)
  | is_con_symbol : KT (.ref 794)
  | is_pattern_atom : KT (.ref 801)
  | read_atom_pattern : KT (.ref 808)
  | read_several : KT (.ref 815)
  | read_list_pattern : KT (.ref 822)
  | read_bracketed_pattern : KT (.ref 829)
  | is_plain_name : KT (.ref 836)
  | pattern_of : KT (.ref 841)
  | applied_pattern : KT (.ref 846)
  | infix_pattern : KT (.ref 853)
  | con_operator : KT (.ref 860)
  | law_brook : KT (.ref 952)
  | law_cup : KT (.ref 959)
  | law_sign : KT (.ref 966)
  | law_number : KT (.ref 973)
  | law_operator : KT (.ref 980)
  | law_whole : KT (.ref 987)
  | law_listed : KT (.ref 994)
  | law_atom : KT (.ref 1001)
  | law_part : KT (.ref 1008)
  | law_pattern : KT (.ref 1015)
  | law_read : KT (.ref 1022)
  | law_turned : KT (.ref 1029)
  | law_fixed_right : KT (.ref 1034)
  | law : KT (.ref 1041)
theorem kF {v : Value} (h : KT v) : KeepF v := KT.rec (motive := fun v _ => KeepF v)
  (⟨_, cF_Cursor.kin, fun P => by kernel_rfl⟩)
  (⟨_, cF_Cursor.kin, fun P => by kernel_rfl⟩)
  (⟨_, cF_Cursor.kin, fun P => by kernel_rfl⟩)
  (⟨_, cF_Cursor.kin, fun P => by kernel_rfl⟩)
  (⟨_, cF_Cursor.kin, fun P => by kernel_rfl⟩)
  (⟨_, cF_Cursor.kin, fun P => by kernel_rfl⟩)
  (⟨_, cF_Cursor.kin, fun P => by kernel_rfl⟩)
  (⟨_, cF_Cursor.kin, fun P => by kernel_rfl⟩)
  (⟨_, cF_Cursor.kin, fun P => by kernel_rfl⟩)
  (⟨_, cF_Node.kin, fun P => by kernel_rfl⟩)
  (⟨_, cF_Node.kin, fun P => by kernel_rfl⟩)
  (⟨_, cF_Var.kin, fun P => by kernel_rfl⟩)
  (⟨_, cF_Var.kin, fun P => by kernel_rfl⟩)
  (⟨_, cF_Con.kin, fun P => by kernel_rfl⟩)
  (⟨_, cF_Con.kin, fun P => by kernel_rfl⟩)
  (⟨_, cF_Lit.kin, fun P => by kernel_rfl⟩)
  (⟨_, cF_Lit.kin, fun P => by kernel_rfl⟩)
  (⟨_, cF_App.kin, fun P => by kernel_rfl⟩)
  (⟨_, cF_App.kin, fun P => by kernel_rfl⟩)
  (⟨_, cF_Op.kin, fun P => by kernel_rfl⟩)
  (⟨_, cF_Op.kin, fun P => by kernel_rfl⟩)
  (⟨_, cF_Infix.kin, fun P => by kernel_rfl⟩)
  (⟨_, cF_Infix.kin, fun P => by kernel_rfl⟩)
  (⟨_, cF_Tuple.kin, fun P => by kernel_rfl⟩)
  (⟨_, cF_Tuple.kin, fun P => by kernel_rfl⟩)
  (⟨_, cF_ListOf.kin, fun P => by kernel_rfl⟩)
  (⟨_, cF_ListOf.kin, fun P => by kernel_rfl⟩)
  (⟨_, cF_Paren.kin, fun P => by kernel_rfl⟩)
  (⟨_, cF_Paren.kin, fun P => by kernel_rfl⟩)
  (⟨_, cF_PVar.kin, fun P => by kernel_rfl⟩)
  (⟨_, cF_PVar.kin, fun P => by kernel_rfl⟩)
  (⟨_, cF_PWild.kin, fun P => by kernel_rfl⟩)
  (⟨_, cF_PWild.kin, fun P => by kernel_rfl⟩)
  (⟨_, cF_PLit.kin, fun P => by kernel_rfl⟩)
  (⟨_, cF_PLit.kin, fun P => by kernel_rfl⟩)
  (⟨_, cF_PCon.kin, fun P => by kernel_rfl⟩)
  (⟨_, cF_PCon.kin, fun P => by kernel_rfl⟩)
  (⟨_, cF_PTuple.kin, fun P => by kernel_rfl⟩)
  (⟨_, cF_PTuple.kin, fun P => by kernel_rfl⟩)
  (⟨_, cF_PList.kin, fun P => by kernel_rfl⟩)
  (⟨_, cF_PList.kin, fun P => by kernel_rfl⟩)
  (⟨_, cF_PAs.kin, fun P => by kernel_rfl⟩)
  (⟨_, cF_PAs.kin, fun P => by kernel_rfl⟩)
  (⟨_, cF_PLazy.kin, fun P => by kernel_rfl⟩)
  (⟨_, cF_PLazy.kin, fun P => by kernel_rfl⟩)
  (⟨_, cF_PBang.kin, fun P => by kernel_rfl⟩)
  (⟨_, cF_PBang.kin, fun P => by kernel_rfl⟩)
  (⟨_, cF_PInfix.kin, fun P => by kernel_rfl⟩)
  (⟨_, cF_PInfix.kin, fun P => by kernel_rfl⟩)
  (⟨_, cF_PParen.kin, fun P => by kernel_rfl⟩)
  (⟨_, cF_PParen.kin, fun P => by kernel_rfl⟩)
  (⟨_, cF_WordRow.kin, fun P => by kernel_rfl⟩)
  (⟨_, cF_WordRow.kin, fun P => by kernel_rfl⟩)
  (⟨_, cF_WordRow.kin, fun P => by kernel_rfl⟩)
  (⟨_, cF_Word.kin, fun P => by kernel_rfl⟩)
  (⟨_, cF_Word.kin, fun P => by kernel_rfl⟩)
  (⟨_, cF_Word.kin, fun P => by kernel_rfl⟩)
  (⟨_, kin_frag [70], fun P => by kernel_rfl⟩)
  (⟨_, kin_frag [183], fun P => by kernel_rfl⟩)
  (⟨_, kin_frag [759], fun P => by kernel_rfl⟩)
  (⟨_, kin_frag [766], fun P => by kernel_rfl⟩)
  (⟨_, kin_frag [773], fun P => by kernel_rfl⟩)
  (⟨_, kin_frag [780], fun P => by kernel_rfl⟩)
  (⟨_, kin_frag [787], fun P => by kernel_rfl⟩)
  (⟨_, kin_frag [794], fun P => by kernel_rfl⟩)
  (⟨_, kin_frag [801], fun P => by kernel_rfl⟩)
  (⟨_, kin_frag [808], fun P => by kernel_rfl⟩)
  (⟨_, kin_frag [815], fun P => by kernel_rfl⟩)
  (⟨_, kin_frag [822], fun P => by kernel_rfl⟩)
  (⟨_, kin_frag [829], fun P => by kernel_rfl⟩)
  (⟨_, kin_frag [836], fun P => by kernel_rfl⟩)
  (⟨_, kin_frag [841], fun P => by kernel_rfl⟩)
  (⟨_, kin_frag [846], fun P => by kernel_rfl⟩)
  (⟨_, kin_frag [853], fun P => by kernel_rfl⟩)
  (⟨_, kin_frag [860], fun P => by kernel_rfl⟩)
  (⟨_, kin_frag [952], fun P => by kernel_rfl⟩)
  (⟨_, kin_frag [959], fun P => by kernel_rfl⟩)
  (⟨_, kin_frag [966], fun P => by kernel_rfl⟩)
  (⟨_, kin_frag [973], fun P => by kernel_rfl⟩)
  (⟨_, kin_frag [980], fun P => by kernel_rfl⟩)
  (⟨_, kin_frag [987], fun P => by kernel_rfl⟩)
  (⟨_, kin_frag [994], fun P => by kernel_rfl⟩)
  (⟨_, kin_frag [1001], fun P => by kernel_rfl⟩)
  (⟨_, kin_frag [1008], fun P => by kernel_rfl⟩)
  (⟨_, kin_frag [1015], fun P => by kernel_rfl⟩)
  (⟨_, kin_frag [1022], fun P => by kernel_rfl⟩)
  (⟨_, kin_frag [1029], fun P => by kernel_rfl⟩)
  (⟨_, kin_frag [1034], fun P => by kernel_rfl⟩)
  (⟨_, kin_frag [1041], fun P => by kernel_rfl⟩) h
theorem bF_len : NoGlobF s_len := ⟨_, kin_glob, fun P => by kernel_rfl⟩
theorem bF_isinstance : NoGlobF s_isinstance := ⟨_, kin_glob, fun P => by kernel_rfl⟩
theorem bF_tuple : NoGlobF s_tuple := ⟨_, kin_glob, fun P => by kernel_rfl⟩
theorem bF_abs : NoGlobF s_abs := ⟨_, kin_glob, fun P => by kernel_rfl⟩
theorem bF_str : NoGlobF s_str := ⟨_, kin_glob, fun P => by kernel_rfl⟩
theorem bF_min : NoGlobF s_min := ⟨_, kin_glob, fun P => by kernel_rfl⟩
theorem bF_max : NoGlobF s_max := ⟨_, kin_glob, fun P => by kernel_rfl⟩
theorem bF_range : NoGlobF s_range := ⟨_, kin_glob, fun P => by kernel_rfl⟩
section
variable {c : Cx} {sc : Scope} {m : Lc} {μ ι ρ : Led} {k : Nat}
theorem W.while_ {Q : Po Flow} {test : Expr} {body rest : List Stmt} {pos : Pos} (J : Nat → Lc → Led → Led → Prop) {n₀ : Nat} (j : J n₀ m μ ι)
    (turn : ∀ n m μ ι, J n m μ ι → c.W (isTrue test (c.env sc) (eval test (c.env sc))) (fun b m μ ι => if b then c.W (execs body (c.env sc)) (fun f m μ ι => f = .next ∧ ∃ n', n' < n ∧ J n' m μ ι) m μ ι else c.W (execs rest (c.env sc)) Q m μ ι) m μ ι)
    (hE : PassesOwn (model c.prog c.w) c.A (c.env sc) c.E := by exact Cx.Ok.pass (by assumption)) : c.W (execs (.While test body [] pos :: rest) (c.env sc)) Q m μ ι := by
  refine W.execs_cons <| .mk fun hp tk S => ?_
  refine wpAny_While (codeAny_whileLoop (fun n s' => ∃ h₁ tk₁ m₁ μ₁ ι₁, s' = c.sh h₁ tk₁ ∧ St c m₁ μ₁ ι₁ h₁ ∧ J n m₁ μ₁ ι₁) ?_ n₀ ⟨hp, tk, m, μ, ι, rfl, S, j⟩)
  rintro n s' ⟨h₁, tk₁, m₁, μ₁, ι₁, rfl, S₁, J₁⟩
  refine wpAny_mono ((turn n m₁ μ₁ ι₁ J₁).run h₁ tk₁ S₁) (fun b s₂ h₂ => ?_) hE
  refine oEEEEEAA h₂ ?_; clear h₂; intro h' tk' m' μ' ι' zo5 S₂ q; obtain rfl := zo5
  cases b with
  | false =>
    simp only [Bool.false_eq_true, if_false] at q ⊢
    exact wpAny_execs_nil (S₂.same (Q := c.then_ sc rest Q) (a := Flow.next) q)
  | true =>
    simp only [if_true] at q ⊢
    refine wpAny_mono (q.run _ _ S₂) (fun f s₃ h₃ => ?_) hE
    refine oEEEEEAAAE h₃ ?_; clear h₃; intro h' tk' m' μ' ι' zo5 S₃ zo7 n' zz; refine oA zz ?_; clear zz; intro hn j'; obtain rfl := zo5; obtain rfl := zo7
    exact ⟨n', hn, h', tk', m', μ', ι', rfl, S₃, j'⟩
def RangeF (ι : Led) (v : Value) (n : Nat) : Prop := ∃ r t u z, v = .ref r ∧ (r, ({ cls := .type "range", data := .fields #[.int 0 t, .int (n : Int) u, .int 1 z] } : Obj)) ∈ ι
theorem Apart.insert {own ρ ι : Led} {p : Addr × Obj} (a : Apart (own ++ ρ) ι) (off : ∀ q ∈ (own ++ ρ) ++ ι, q.1 ≠ p.1) : Apart (own ++ p :: ρ) ι := by
  obtain ⟨n, d⟩ := a
  refine ⟨?_, fun q hq r hr => ?_⟩
  · rw [List.map_append, List.nodup_append] at n
    refine oAA n ?_; clear n; intro a b k
    rw [List.map_append, List.map_cons, List.nodup_append, List.nodup_cons]
    refine ⟨a, ⟨fun e => ?_, b⟩, fun x hx y hy => ?_⟩
    · refine oEA (List.mem_map.mp e) fun q hq e => ?_
      exact off q (List.mem_append.mpr (.inl (List.mem_append.mpr (.inr hq)))) e
    · rcases List.mem_cons.mp hy with rfl | hy
      · refine oEA (List.mem_map.mp hx) fun q hq zo2 => ?_; obtain rfl := zo2
        exact off q (List.mem_append.mpr (.inl (List.mem_append.mpr (.inl hq))))
      · exact k x hx y hy
  · rcases List.mem_append.mp hq with hq | hq
    · exact d q (List.mem_append.mpr (.inl hq)) r hr
    · rcases List.mem_cons.mp hq with rfl | hq
      · exact fun e => off r (List.mem_append.mpr (.inr hr)) e.symm
      · exact d q (List.mem_append.mpr (.inr hq)) r hr
theorem rangeRest {x : Str} {body : List Stmt} {n : Nat} {I : Addr} {hp : Heap} {tk : Nat} (J : Nat → Lc → Led → Led → Prop) {Q : Flow → Shared → Prop}
    (turn : ∀ i t m own ι ρ, i < n → J i m own ι → c.W (execs body (c.env sc)) (fun f m μ ι => f = .next ∧ ∃ own, μ = own ++ ρ ∧ J (i + 1) m own ι) ((x, .int i t) :: m) (own ++ ρ) ι)
    (next : ∀ h tk m own ι, J n m own ι → St c m (own ++ ρ) ι h → Q .next (c.sh h tk)) :
    ∀ k i m own ι mf, i + k = n → J i m own ι → (∀ x v, At x v m → mf x = some v) → Apart (own ++ ρ) ι → (∀ p ∈ (own ++ ρ) ++ ι, p.1 ≠ I) →
      RangeRest c.prog c.w c.A c.E c.g (c.env sc) x body Q (c.sh hp tk) I 0 n k i mf ((own ++ ρ) ++ ι)
  | 0, i, m, own, ι, mf, e, j, hm, a, _ => .zero fun h tk F N => next h tk m own ι (by rw [Nat.add_zero] at e; exact e ▸ j) ⟨⟨mf, F, hm⟩, N, a⟩
  | k + 1, i, m, own, ι, mf, e, j, hm, a, off => .succ fun t h tk' F N => by
    have S : St c ((x, .int i t) :: m) (own ++ (I, itR (0 + ((i + 1 : Nat) : Int)) ((n : Int) - ((i + 1 : Nat) : Int))) :: ρ) ι h := by
      refine ⟨⟨_, F, fun y u q => ?_⟩, fun p hp => N p ?_, a.insert off⟩
      · cases q with
        | here => simp
        | there ne q => simp [Ne.symm (beq_eq_false_iff_ne.mp ne), hm _ _ q]
      · simp only [List.mem_append, List.mem_cons] at hp ⊢
        rcases hp with (q | q | q) | q <;> simp [q]
    refine wpAny_mono ((turn i t m own ι _ (by walk_at "o") j).run h tk' S) (fun f s₂ q => ?_) fun _ _ x => x
    refine oEEEEEAAAE q ?_; clear q; intro h' tk₂ m' μ' ι' zo5 S' zo7 own' zz; refine oA zz ?_; clear zz; intro zo9 j'; obtain rfl := zo5; obtain rfl := zo7; obtain rfl := zo9
    have fz := S'.D.freeze
    refine oEA S'.F fun mf' F' hm' => ?_
    show UnrEnd c.g c.L (c.sh h tk') I _ _ (c.sh h' tk₂)
    refine UnrEnd.intro (s₁ := c.sh h tk') (h' := h') (tk := tk₂) F' S'.N ((own' ++ ρ) ++ ι') (fun p hp => ?_) (fun p hp => ?_) (rangeRest J turn next k (i + 1) m' own' ι' mf' (by walk_at "o") j' hm' ?_ ?_)
    · simp only [List.mem_append, List.mem_cons] at hp ⊢
      rcases hp with q | (q | q) | q <;> simp [q]
    · rcases List.mem_append.mp hp with q | q
      · exact fz.2 p q (I, _) (.head _)
      · exact fun e => S'.D.2 (I, _) (List.mem_append.mpr (.inr (.head _))) p q e.symm
    · exact ⟨fz.1, fun p hp q hq => fz.2 p hp q (.tail _ hq)⟩
    · intro p hp
      rcases List.mem_append.mp hp with q | q
      · exact fz.2 p q (I, _) (.head _)
      · exact fun e => S'.D.2 (I, _) (List.mem_append.mpr (.inr (.head _))) p q e.symm
theorem W.forRange {Q : Po Flow} {x : Str} {px pos : Pos} {iter : Expr} {body rest : List Stmt} (J : Nat → Lc → Led → Led → Prop) (O : c.Ok sc k)
    (hi : c.W (eval iter (c.env sc)) (fun v m μ ι => ∃ n own, n < 2 ^ 30 ∧ RangeF ι v n ∧ μ = own ++ ρ ∧ J 0 m own ι ∧
      (∀ i t m own ι ρ, i < n → J i m own ι → c.W (execs body (c.env sc)) (fun f m μ ι => f = .next ∧ ∃ own, μ = own ++ ρ ∧ J (i + 1) m own ι) ((x, .int i t) :: m) (own ++ ρ) ι) ∧
      (∀ m own ι, J n m own ι → c.W (execs rest (c.env sc)) Q m (own ++ ρ) ι)) m μ ι)
    (hx : sc.names.lookup x = some .local := by kernel_rfl) (hs : ∀ v, foldedSetIterable iter (c.env sc) v = pure v := by intro _; rfl) :
    c.W (execs (.For (.Name x px) iter body [] pos :: rest) (c.env sc)) Q m μ ι := by
  refine W.execs_cons <| .mk fun hp tk S => ?_
  refine For_invV c.g (show (c.env sc).kindOf x = some .local from hx) (by show (sc.kind == .class || (sc.kind == .module && _)) = false; rw [O.kind]; rfl) (W.open (hi.run hp tk S) fun v h' tk' m' μ' ι' S' q => ?_) hs O.pass
  refine oEEAAAAA q ?_; clear q; intro n own hn zo3 zo4 j turn next; obtain ⟨r, t, u, z, rfl, hr⟩ := zo3; obtain rfl := zo4
  refine oEA S'.F fun mf F hm => ?_
  have sz : Builtin.Range.rangeSize 0 (n : Int) 1 = (n : Int) := by
    unfold Builtin.Range.rangeSize
    simp only [show (1 : Int) > 0 from by decide, if_true]
    by_cases h : (0 : Int) < n
    · rw [if_pos h, Int.ediv_one]; walk_at "o"
    · rw [if_neg h]; walk_at "o"
  have small : Builtin.Range.small 0 (n : Int) 1 = true := by
    have f : ∀ y : Int, 0 ≤ y → y < 2 ^ 40 → Builtin.Range.rangeFitsLong y = true := fun y h1 h2 => by unfold Builtin.Range.rangeFitsLong; simp; walk_at "o"
    unfold Builtin.Range.small
    rw [sz, f 0 (by decide) (by decide), f 1 (by decide) (by decide), f n (by walk_at "o") (by walk_at "o"), if_pos (by decide), f ((n : Int) + (1 - 1)) (by walk_at "o") (by walk_at "o"), Bool.or_true]; rfl
  exact iter_rangeUnr (s := c.sh h' tk') O.handled (S'.N _ (List.mem_append.mpr (.inr hr))).1 small sz F S'.N fun I lt => rangeRest (hp := h') (tk := tk') J turn (fun h tk m own ι j S => S.same (Q := c.then_ sc rest Q) (a := Flow.next) (next m own ι j)) n 0 m' own ι' mf (Nat.zero_add n) j hm S'.D fun p hp => Nat.ne_of_lt (lt p hp)
theorem W.range {n : Int} {t : Tok} {j : Nat} {Q : Po Value} (hn : n = j) (q : ∀ v ι', (∀ p ∈ ι, p ∈ ι') → RangeF ι' v j → Q v m μ ι') : c.W (PySem.call (.type "range") [.int n t]) Q m μ ι := .mk fun hp tk S => by
  subst hn
  refine oEA S.F fun mf F hm => ?_
  refine range1_rows F S.N fun h' tk' t₁ u₁ v₁ hr F' N' _ => ?_
  have z : News c.g c.L h' ((hp.objs.size, ({ cls := .type "range", data := .fields #[.int 0 t₁, .int (j : Int) u₁, .int 1 v₁] } : Obj)) :: (μ ++ ι)) := fun p hq => by
    rcases List.mem_cons.mp hq with rfl | hq
    · refine ⟨hr, Nat.ne_of_gt F.ns.lt, ?_⟩
      cases e : c.g.get? hp.objs.size with
      | none => rfl
      | some o => exact absurd (Heap.lt_size (F.keep _ _ e)) (Nat.lt_irrefl _)
    · exact N' p hq
  exact ⟨h', tk', m, μ, _, rfl, ⟨⟨mf, F', hm⟩, fun p hq => z p (by simp only [List.mem_append, List.mem_cons] at hq ⊢; rcases hq with a | a | a <;> simp [a]), S.D.newI fun q hq => Heap.lt_size (S.N q hq).1⟩, q _ _ (fun p h => .tail _ h) ⟨_, t₁, u₁, v₁, rfl, .head _⟩⟩
theorem W.addI {a b : Int} {t u : Tok} {Q : Po Value} (q : ∀ t, Q (.int (a + b) t) m μ ι) : c.W (binaryOp .Add (.int a t) (.int b u)) Q m μ ι := .mk fun hp tk S => add_int (S.same (q _))
theorem W.subI {a b : Int} {t u : Tok} {Q : Po Value} (q : ∀ t, Q (.int (a - b) t) m μ ι) : c.W (binaryOp .Sub (.int a t) (.int b u)) Q m μ ι := .mk fun hp tk S => sub_int (S.same (q _))
theorem W.mulI {a b : Int} {t u : Tok} {Q : Po Value} (ok : IntMulOk a b) (q : ∀ t, Q (.int (a * b) t) m μ ι) : c.W (binaryOp .Mult (.int a t) (.int b u)) Q m μ ι := .mk fun hp tk S => mul_int (S.same (q _)) ok
theorem W.modI {a b : Int} {t u : Tok} {Q : Po Value} (hb : b ≠ 0) (q : ∀ t, Q (.int (a.fmod b) t) m μ ι) : c.W (binaryOp .Mod (.int a t) (.int b u)) Q m μ ι := .mk fun hp tk S => mod_int' hb (S.same (q _))
theorem W.eqI {a b : Int} {t u : Tok} {Q : Po Value} (q : Q (.bool (a == b)) m μ ι) : c.W (compareOp .Eq (.int a t) (.int b u)) Q m μ ι := .mk fun hp tk S => eq_int (S.same q)
theorem W.ltI {a b : Int} {t u : Tok} {Q : Po Value} (q : Q (.bool (decide (a < b))) m μ ι) : c.W (compareOp .Lt (.int a t) (.int b u)) Q m μ ι := .mk fun hp tk S => lt_int (S.same q)
theorem W.gtI {a b : Int} {t u : Tok} {Q : Po Value} (q : Q (.bool (decide (a > b))) m μ ι) : c.W (compareOp .Gt (.int a t) (.int b u)) Q m μ ι := .mk fun hp tk S => gt_int (S.same q)
theorem W.eqS {a b : Str} {t u : Tok} {Q : Po Value} (q : Q (.bool (a == b)) m μ ι) : c.W (compareOp .Eq (.str a t) (.str b u)) Q m μ ι := .mk fun hp tk S => eq_str (S.same q)
theorem W.neS {a b : Str} {t u : Tok} {Q : Po Value} (q : Q (.bool (a != b)) m μ ι) : c.W (compareOp .NotEq (.str a t) (.str b u)) Q m μ ι := .mk fun hp tk S => ne_str (S.same q)
theorem W.is_ {a b : Value} {Q : Po Value} (hp : plainIs a b = true) (q : Q (.bool (a == b)) m μ ι) : c.W (compareOp .Is a b) Q m μ ι := .mk fun _ tk S => wpAny_is_plain hp (S.same q)
theorem W.isNot_ {a b : Value} {Q : Po Value} (hp : plainIs a b = true) (q : Q (.bool (!(a == b))) m μ ι) : c.W (compareOp .IsNot a b) Q m μ ι := .mk fun _ tk S => wpAny_isNot_plain hp (S.same q)
theorem W.inTup {t : Addr} {vs : List Value} {n : Nat} {ys : List Str} {x : Str} {u : Tok} {Q : Po Value} (ht : (t, ({ cls := .type "tuple", data := .seq vs.toArray n } : Obj)) ∈ μ ++ ι) (hi : StrsAre vs ys) (q : Q (.bool (ys.any (· == x))) m μ ι) :
    c.W (compareOp .In (.str x u) (.ref t)) Q m μ ι := .mk fun hp tk S => in_tuple_strs (S.N.isTup ht) (by simpa using hi) (S.same q)
theorem W.itemT {value slice : Expr} {l : Addr} {vs : List Value} {n : Nat} {i : Int} {u : Tok} {j : Nat} {x : Value} {Q : Po Value} (h : (l, ({ cls := .type "tuple", data := .seq vs.toArray n } : Obj)) ∈ μ ++ ι) (hj : i = j) (hf : i < 2 ^ 30) (hx : vs[j]? = some x) (q : Q x m μ ι)
    (hs : subscripted slice false (.ref l) (.int i u) = operate [.ref l, .int i u] (getItem (.ref l) (.int i u)) := by with_unfolding_all rfl) :
    c.W (subscriptTail value slice (.ref l) (.int i u)) Q m μ ι := .mk fun hp tk S => item_tupleT (S.N.isTup h) (by walk_at "o") (by walk_at "o") (j := j) (by
      subst hj
      have : j < vs.length := by
        cases e : decide (j < vs.length) with
        | true => exact of_decide_eq_true e
        | false => rw [List.getElem?_eq_none (by have := of_decide_eq_false e; walk_at "o")] at hx; cases hx
      unfold seqIndex?; simp; walk_at "o") hx (S.same q) hs
end
abbrev Sub (a b : Led) : Prop := ∀ p ∈ a, p ∈ b
theorem Sub.refl {a : Led} : Sub a a := fun _ h => h
theorem Sub.trans {a b d : Led} (x : Sub a b) (y : Sub b d) : Sub a d := fun p h => y p (x p h)
theorem Sub.cons {a : Led} {p : Addr × Obj} : Sub a (p :: a) := fun _ h => .tail _ h
theorem Sub.right {a b : Led} : Sub b (a ++ b) := fun _ h => List.mem_append.mpr (.inr h)
def LObj (o : Obj) (vs : List Value) : Prop := o.cls = .type "list" ∧ ∃ n, o.data = .seq vs.toArray n
structure ListF (n : Led) (v : Value) (vs : List Value) : Prop where
  ex : ∃ l o, v = .ref l ∧ (l, o) ∈ n ∧ LObj o vs
structure TupF (n : Led) (v : Value) (vs : List Value) : Prop where
  ex : ∃ l k, v = .ref l ∧ (l, ({ cls := .type "tuple", data := .seq vs.toArray k } : Obj)) ∈ n
theorem ListF.mono {n n' : Led} {v : Value} {vs : List Value} (I : ListF n v vs) (h : Sub n n') : ListF n' v vs := by refine oEEAA I.ex fun l o e a f => ?_; exact ⟨l, o, e, h _ a, f⟩
theorem TupF.mono {n n' : Led} {v : Value} {vs : List Value} (I : TupF n v vs) (h : Sub n n') : TupF n' v vs := by refine oEEA I.ex fun l o e a => ?_; exact ⟨l, o, e, h _ a⟩
mutual
inductive RowV (n : Led) : Value → PyData → Prop
  | bool (b : Bool) : RowV n (.bool b) (.bool b)
  | int (i : Int) (t : Tok) : RowV n (.int i t) (.int i)
  | str (x : Str) (t : Tok) : RowV n (.str x t) (.str x)
  | tup {a : Addr} {vs : List Value} {k : Nat} {ds : List PyData} : (a, ({ cls := .type "tuple", data := .seq vs.toArray k } : Obj)) ∈ n → RowVs n vs ds → RowV n (.ref a) (.tuple ds)
inductive RowVs (n : Led) : List Value → List PyData → Prop
  | nil : RowVs n [] []
  | cons {v : Value} {vs : List Value} {d : PyData} {ds : List PyData} : RowV n v d → RowVs n vs ds → RowVs n (v :: vs) (d :: ds)
end
mutual
theorem RowV.mono {n n' : Led} (hs : Sub n n') : ∀ {v : Value} {d : PyData}, RowV n v d → RowV n' v d
  | _, _, .bool b => .bool b
  | _, _, .int i t => .int i t
  | _, _, .str x t => .str x t
  | _, _, .tup a r => .tup (hs _ a) (RowVs.mono hs r)
theorem RowVs.mono {n n' : Led} (hs : Sub n n') : ∀ {vs : List Value} {ds : List PyData}, RowVs n vs ds → RowVs n' vs ds
  | _, _, .nil => .nil
  | _, _, .cons a r => .cons (RowV.mono hs a) (RowVs.mono hs r)
end
mutual
theorem RowV.reads {h₀ h : Heap} {L : Addr} {n : Led} (N : News h₀ L h n) : ∀ {v : Value} {d : PyData}, RowV n v d → ∃ as, Reads h v d as
  | _, _, .bool b => ⟨_, Reads.bool b⟩
  | _, _, .int i t => ⟨_, Reads.int i t⟩
  | _, _, .str x t => ⟨_, Reads.str x t⟩
  | _, _, .tup a r => let ⟨as, q⟩ := RowVs.reads N r; ⟨as, reads_tuple_at (N.get a) rfl rfl (by simpa using q)⟩
theorem RowVs.reads {h₀ h : Heap} {L : Addr} {n : Led} (N : News h₀ L h n) : ∀ {vs : List Value} {ds : List PyData}, RowVs n vs ds → ∃ as, ReadsAll h vs ds as
  | _, _, .nil => ⟨_, ReadsAll.nil⟩
  | _, _, .cons a r => let ⟨as, q⟩ := RowV.reads N a; let ⟨bs, p⟩ := RowVs.reads N r; ⟨_, ReadsAll.cons q p⟩
end
theorem RowVs.append {n : Led} : ∀ {vs : List Value} {ds : List PyData} {us : List Value} {es : List PyData}, RowVs n vs ds → RowVs n us es → RowVs n (vs ++ us) (ds ++ es)
  | _, _, _, _, .nil, h => h
  | _, _, _, _, .cons a r, h => .cons a (r.append h)
theorem RowV.tupF {n : Led} {v : Value} {vs : List Value} {ds : List PyData} (t : TupF n v vs) (r : RowVs n vs ds) : RowV n v (.tuple ds) := by
  refine oEEA t.ex fun a k zo2 h => ?_; obtain rfl := zo2
  exact .tup h r
section
variable {c : Cx} {sc : Scope} {m : Lc} {μ ι ρ : Led} {k : Nat}
theorem St.addI {h h' : Heap} {a : Addr} {o : Obj} (S : St c m μ ι h) {mf : Str → Option Value} (F' : Fr c.g c.L h' mf) (hm : ∀ x v, At x v m → mf x = some v) (N' : News c.g c.L h' ((a, o) :: (μ ++ ι))) (lt : ∀ q ∈ μ ++ ι, q.1 < a) : St c m μ ((a, o) :: ι) h' :=
  ⟨⟨mf, F', hm⟩, fun p hq => N' p (by simp only [List.mem_append, List.mem_cons] at hq ⊢; rcases hq with a | a | a <;> simp [a]), S.D.newI lt⟩
theorem W.list_ {vs : List Value} {Q : Po Value} (hsz : vs.length ≤ sizeLine) (q : ∀ v ι', Sub ι ι' → ListF ι' v vs → Q v m μ ι') : c.W (newList vs) Q m μ ι := W.listI hsz fun l => q _ _ Sub.cons ⟨l, _, rfl, .head _, rfl, 0, rfl⟩
theorem W.tup_ {vs : List Value} {Q : Po Value} (hsz : vs.length ≤ sizeLine) (q : ∀ v ι', Sub ι ι' → TupF ι' v vs → Q v m μ ι') : c.W (newTuple vs) Q m μ ι := W.tup hsz fun l => q _ _ Sub.cons ⟨l, 0, rfl, .head _⟩
theorem ListF.isList {h : Heap} {v : Value} {vs : List Value} (S : St c m μ ι h) (l : ListF ι v vs) : ∃ a, v = .ref a ∧ h.IsList a vs.toArray := by
  refine oEEAAAE l.ex fun a o zo2 hm hc n hd => ?_; obtain rfl := zo2
  exact ⟨a, rfl, o, (S.N _ (List.mem_append.mpr (.inr hm))).1, hc, n, hd⟩
theorem TupF.isTup {h : Heap} {v : Value} {vs : List Value} (S : St c m μ ι h) (l : TupF ι v vs) : ∃ a, v = .ref a ∧ IsTup h a vs.toArray := by
  refine oEEA l.ex fun a n zo2 hm => ?_; obtain rfl := zo2
  exact ⟨a, rfl, S.N.isTup (List.mem_append.mpr (.inr hm))⟩
theorem LObj.isList {h : Heap} {l : Addr} {o : Obj} {vs : List Value} (S : St c m μ ι h) (hm : (l, o) ∈ μ) (x : LObj o vs) : h.IsList l vs.toArray := by refine oAE x ?_; clear x; intro hc n hd; exact ⟨o, (S.N _ (List.mem_append.mpr (.inl hm))).1, hc, n, hd⟩
theorem W.len_ {v : Value} {vs : List Value} {Q : Po Value} (h : ListF ι v vs) (hn : vs.length < 2 ^ 30) (q : ∀ t, Q (.int vs.length t) m μ ι) : c.W (PySem.call (.builtin "len") [v]) Q m μ ι := .mk fun hp tk S => by
  refine oEA (h.isList S) fun a zo1 hl => ?_; obtain rfl := zo1
  exact len_list hl (by rw [List.size_toArray]; walk_at "o") (S.same (by rw [List.size_toArray]; exact q _))
theorem W.lenM {l : Addr} {o : Obj} {vs : List Value} {Q : Po Value} (hm : (l, o) ∈ μ) (h : LObj o vs) (hn : vs.length < 2 ^ 30) (q : ∀ t, Q (.int vs.length t) m μ ι) : c.W (PySem.call (.builtin "len") [.ref l]) Q m μ ι := .mk fun hp tk S =>
  len_list (h.isList S hm) (by rw [List.size_toArray]; walk_at "o") (S.same (by rw [List.size_toArray]; exact q _))
theorem W.item_ {value slice : Expr} {v : Value} {vs : List Value} {i : Int} {u : Tok} {x : Value} {Q : Po Value} (h : ListF ι v vs) (h0 : 0 ≤ i) (hf : i < 2 ^ 63) (hx : vs[i.toNat]? = some x) (q : Q x m μ ι)
    (hs : ∀ l, subscripted slice false (.ref l) (.int i u) = operate [.ref l, .int i u] (getItem (.ref l) (.int i u)) := by intro _; with_unfolding_all rfl) :
    c.W (subscriptTail value slice v (.int i u)) Q m μ ι := .mk fun hp tk S => by
  refine oEA (h.isList S) fun a zo1 hl => ?_; obtain rfl := zo1
  exact tail_any hl.typeIs slot_list_getitem.lookup (wpAny_getItem_list hl h0 hf (by simpa using hx) (S.same q)) (hs _)
theorem W.itemM {value slice : Expr} {l : Addr} {o : Obj} {vs : List Value} {i : Int} {u : Tok} {x : Value} {Q : Po Value} (hm : (l, o) ∈ μ) (h : LObj o vs) (h0 : 0 ≤ i) (hf : i < 2 ^ 63) (hx : vs[i.toNat]? = some x) (q : Q x m μ ι)
    (hs : subscripted slice false (.ref l) (.int i u) = operate [.ref l, .int i u] (getItem (.ref l) (.int i u)) := by with_unfolding_all rfl) :
    c.W (subscriptTail value slice (.ref l) (.int i u)) Q m μ ι := .mk fun hp tk S => tail_any (h.isList S hm).typeIs slot_list_getitem.lookup (wpAny_getItem_list (h.isList S hm) h0 hf (by simpa using hx) (S.same q)) hs
theorem W.titem {value slice : Expr} {v : Value} {vs : List Value} {j : Nat} {u : Tok} {x : Value} {Q : Po Value} (h : TupF ι v vs) (hx : vs[j]? = some x) (q : Q x m μ ι) (hf : j < 2 ^ 30 := by decide)
    (hs : ∀ l, subscripted slice false (.ref l) (.int (j : Int) u) = operate [.ref l, .int (j : Int) u] (getItem (.ref l) (.int (j : Int) u)) := by intro _; with_unfolding_all rfl) :
    c.W (subscriptTail value slice v (.int (j : Int) u)) Q m μ ι := by
  refine oEEA h.ex fun a n zo2 hm => ?_; obtain rfl := zo2
  exact W.itemT (List.mem_append.mpr (.inr hm)) rfl (by walk_at "o") hx q (hs _)
theorem W.cat_ {a b : Value} {xs ys : List Value} {Q : Po Value} (ha : ListF ι a xs) (hb : ListF ι b ys) (hsz : xs.length + ys.length ≤ sizeLine) (q : ∀ v ι', Sub ι ι' → ListF ι' v (xs ++ ys) → Q v m μ ι') :
    c.W (binaryOp .Add a b) Q m μ ι := .mk fun hp tk S => by
  refine oEA (ha.isList S) fun x zo1 hxa => ?_; obtain rfl := zo1
  refine oEA (hb.isList S) fun y zo1 hxb => ?_; obtain rfl := zo1
  refine oEA S.F fun mf F hm => ?_
  refine add_arrays F S.N hxa hxb (fun h' F' N' => ?_) (by simpa using hsz)
  have e : (xs.toArray.toList ++ ys.toArray.toList).toArray = (xs ++ ys).toArray := by simp
  rw [e] at N'
  exact ⟨h', tk, m, μ, _, rfl, S.addI F' hm N' fun q hq => Heap.lt_size (S.N q hq).1, q _ _ Sub.cons ⟨_, _, rfl, .head _, rfl, 0, rfl⟩⟩
theorem W.tupleOfM {a : Addr} {o : Obj} {xs : List Value} {Q : Po Value} (hm : (a, o) ∈ μ) (ha : LObj o xs) (hsz : xs.length ≤ sizeLine) (q : ∀ v ι', Sub ι ι' → TupF ι' v xs → Q v m μ ι') : c.W (PySem.call (.type "tuple") [.ref a]) Q m μ ι := .mk fun hp tk S => by
  refine call_tuple_list (ha.isList S hm) (fun h' hk => ?_) (by simpa using hsz)
  refine oEA S.F fun mf F hm => ?_
  have F' := F.keeps hk
  have N' : News c.g c.L h' (μ ++ ι) := fun p hp => ⟨hk _ _ (S.N p hp).1, (S.N p hp).2⟩
  refine ⟨_, tk, m, μ, (h'.objs.size, tupOf xs.toArray) :: ι, rfl, S.addI (F'.push _) hm (fun p hq => ?_) (fun q hq => Heap.lt_size (N' q hq).1), q _ _ Sub.cons ⟨_, 0, rfl, .head _⟩⟩
  rcases List.mem_cons.mp hq with rfl | z
  · exact ⟨Heap.get?_push_size _ rfl, Nat.ne_of_gt F'.ns.lt, next_is_new F'⟩
  · exact ⟨Heap.get?_push_of_some _ (N' p z).1, (N' p z).2⟩
theorem W.tupleOf_ {v : Value} {xs : List Value} {Q : Po Value} (ha : ListF ι v xs) (hsz : xs.length ≤ sizeLine) (q : ∀ v ι', Sub ι ι' → TupF ι' v xs → Q v m μ ι') : c.W (PySem.call (.type "tuple") [v]) Q m μ ι := .mk fun hp tk S => by
  refine oEA (ha.isList S) fun a zo1 hxa => ?_; obtain rfl := zo1
  refine call_tuple_list hxa (fun h' hk => ?_) (by simpa using hsz)
  refine oEA S.F fun mf F hm => ?_
  have F' := F.keeps hk
  have N' : News c.g c.L h' (μ ++ ι) := fun p hp => ⟨hk _ _ (S.N p hp).1, (S.N p hp).2⟩
  refine ⟨_, tk, m, μ, (h'.objs.size, tupOf xs.toArray) :: ι, rfl, S.addI (F'.push _) hm (fun p hq => ?_) (fun q hq => Heap.lt_size (N' q hq).1), q _ _ Sub.cons ⟨_, 0, rfl, .head _⟩⟩
  rcases List.mem_cons.mp hq with rfl | z
  · exact ⟨Heap.get?_push_size _ rfl, Nat.ne_of_gt F'.ns.lt, next_is_new F'⟩
  · exact ⟨Heap.get?_push_of_some _ (N' p z).1, (N' p z).2⟩
theorem St.upd {h h' : Heap} {l : Addr} {o o' : Obj} {μ₁ μ₂ : Led} (S : St c m (μ₁ ++ (l, o) :: μ₂) ι h) (hs : Heap.SameBut l h h') (ho : h'.get? l = some o') : St c m (μ₁ ++ (l, o') :: μ₂) ι h' := by
  obtain ⟨⟨mf, F, hm⟩, N, D⟩ := S
  have hmem : (l, o) ∈ (μ₁ ++ (l, o) :: μ₂) ++ ι := List.mem_append.mpr (.inl (List.mem_append.mpr (.inr (.head _))))
  obtain ⟨n1, n2⟩ := D.ne
  refine ⟨⟨mf, F.update N hmem hs, hm⟩, fun p hp => ?_, D.set⟩
  have old : ∀ q : Addr × Obj, q.1 ≠ l → q ∈ (μ₁ ++ (l, o) :: μ₂) ++ ι → h'.get? q.1 = some q.2 ∧ q.1 ≠ c.L ∧ c.g.get? q.1 = none := fun q ne hq => ⟨(hs.2 _ ne).trans (N q hq).1, (N q hq).2⟩
  simp only [List.mem_append, List.mem_cons] at hp
  rcases hp with (q | q | q) | q
  · exact old p (n1 p q) (by simp [q])
  · subst q; exact ⟨ho, (N _ hmem).2⟩
  · exact old p (n2 p (by simp [q])) (by simp [q])
  · exact old p (n2 p (by simp [q])) (by simp [q])
def PObj (o : Obj) (vs : List Value) : Prop := ∃ n, o = listOf vs.toArray n
theorem PObj.lobj {o : Obj} {vs : List Value} (h : PObj o vs) : LObj o vs := by obtain ⟨n, rfl⟩ := h; exact ⟨rfl, n, rfl⟩
theorem W.listP {vs : List Value} {Q : Po Value} {μ₁ μ₂ : Led} (hsz : vs.length ≤ sizeLine) (q : ∀ l o, PObj o vs → Q (.ref l) m (μ₁ ++ (l, o) :: μ₂) ι) : c.W (newList vs) Q m (μ₁ ++ μ₂) ι := W.listM hsz fun l => q l _ ⟨0, rfl⟩
theorem W.append {l : Addr} {o : Obj} {xs : List Value} {x : Value} {μ₁ μ₂ : Led} {Q : Po Value} (h : PObj o xs) (hsz : xs.length ≤ sizeLine) (q : ∀ o', PObj o' (xs ++ [x]) → Q .none m (μ₁ ++ (l, o') :: μ₂) ι) :
    c.W (PySem.call (.builtin "list.append") [.ref l, x]) Q m (μ₁ ++ (l, o) :: μ₂) ι := .mk fun hp tk S => by
  obtain ⟨n, rfl⟩ := h
  refine append_at (hsz := by simpa using hsz) (S.N _ (List.mem_append.mpr (.inl (List.mem_append.mpr (.inr (.head _)))))).1 fun h' hs ho => ?_
  rw [show xs.toArray.push x = (xs ++ [x]).toArray by simp] at ho
  exact (S.upd hs ho).same (tk := tk) (q _ ⟨_, rfl⟩)
theorem W.reverse {l : Addr} {o : Obj} {xs : List Value} {μ₁ μ₂ : Led} {Q : Po Value} (h : PObj o xs) (hsz : xs.length ≤ sizeLine) (q : ∀ o', PObj o' xs.reverse → Q .none m (μ₁ ++ (l, o') :: μ₂) ι) :
    c.W (PySem.call (.builtin "list.reverse") [.ref l]) Q m (μ₁ ++ (l, o) :: μ₂) ι := .mk fun hp tk S => by
  obtain ⟨n, rfl⟩ := h
  refine oEA S.F fun mf F hm => ?_
  obtain ⟨n1, n2⟩ := S.D.ne
  refine reverse_head (its := xs.toArray) (n := n) (rest := (μ₁ ++ μ₂) ++ ι) F (fun p hp => S.N p ?_) (fun p hp => ?_) (fun h' F' N' => ?_) (hsz := by simpa using hsz)
  · simp only [List.mem_append, List.mem_cons] at hp ⊢
    rcases hp with a | (a | a) | a <;> simp [a, W.listOf]
  · simp only [List.mem_append] at hp
    rcases hp with (a | a) | a
    · exact n1 p a
    · exact n2 p (by simp [a])
    · exact n2 p (by simp [a])
  · refine ⟨h', tk, m, _, ι, rfl, ⟨⟨mf, F', hm⟩, fun p hp => N' p ?_, S.D.set⟩, q (listOf xs.reverse.toArray n) ⟨n, rfl⟩⟩
    simp only [List.mem_append, List.mem_cons] at hp ⊢
    rcases hp with (a | a | a) | a
    · simp [a]
    · simp [a]
    · simp [a]
    · simp [a]
theorem W.setitem {l : Addr} {o : Obj} {xs : List Value} {x : Value} {i : Nat} {u : Tok} {μ₁ μ₂ : Led} {Q : Po Unit} (h : LObj o xs) (hi : i < xs.length) (hf : xs.length < 2 ^ 30) (q : ∀ o', LObj o' (xs.set i x) → Q () m (μ₁ ++ (l, o') :: μ₂) ι) :
    c.W (setItem (.ref l) (.int (i : Int) u) x) Q m (μ₁ ++ (l, o) :: μ₂) ι := .mk fun hp tk S => by
  refine wpAny_setItem_list (h.isList S (List.mem_append.mpr (.inr (.head _)))) (by walk_at "o") (by walk_at "o") (by rw [List.size_toArray]; walk_at "o") fun h' hl hs => ?_
  refine oEAAE hl ?_; clear hl; intro o' ho hc n hd
  exact (S.upd hs ho).same (tk := tk) (q o' ⟨hc, n, by rw [hd]; simp⟩)
theorem W.fdivI {a b : Int} {t u : Tok} {Q : Po Value} (hb : b ≠ 0) (hs : b.natAbs < 1073741824) (q : ∀ t, Q (.int (a.fdiv b) t) m μ ι) : c.W (binaryOp .FloorDiv (.int a t) (.int b u)) Q m μ ι := .mk fun hp tk S =>
  floordiv_int hb (S.same (q _)) (.inl (PyProof.noPylong_small hs))
theorem W.absI {a : Int} {t : Tok} {Q : Po Value} (q : ∀ t, Q (.int (if a < 0 then -a else a) t) m μ ι) : c.W (PySem.call (.builtin "abs") [.int a t]) Q m μ ι := .mk fun hp tk S => call_abs_int fun u tk => S.same (q _)
theorem W.strI {a : Int} {t : Tok} {Q : Po Value} (ha : a.natAbs.log2 < 1920) (q : ∀ t, Q (.str (toString a) t) m μ ι) : c.W (PySem.call (.type "str") [.int a t]) Q m μ ι := .mk fun hp tk S => PySem.P.str_of_int ha (S.same (q _))
theorem W.minI {a b : Int} {t u : Tok} {Q : Po Value} (O : c.Ok sc k) (q : ∀ t, Q (.int (if b < a then b else a) t) m μ ι) : c.W (PySem.call (.builtin "min") [.int a t, .int b u]) Q m μ ι := .mk fun hp tk S => by
  refine oEA S.F fun mf F hm => ?_
  exact min_two_N O.handled F S.N fun h' tk' F' N' => ⟨h', tk', m, μ, ι, rfl, ⟨⟨mf, F', hm⟩, N', S.D⟩, q _⟩
theorem W.maxI {a b : Int} {t u : Tok} {Q : Po Value} (O : c.Ok sc k) (q : ∀ t, Q (.int (if b > a then b else a) t) m μ ι) : c.W (PySem.call (.builtin "max") [.int a t, .int b u]) Q m μ ι := .mk fun hp tk S => by
  refine oEA S.F fun mf F hm => ?_
  exact max_two_N O.handled F S.N fun h' tk' F' N' => ⟨h', tk', m, μ, ι, rfl, ⟨⟨mf, F', hm⟩, N', S.D⟩, q _⟩
theorem W.and1 {e : Expr} {pos : Pos} {Q : Po Value} (h : c.W (eval e (c.env sc)) Q m μ ι) : c.W (eval (.BoolOp .And [e] pos) (c.env sc)) Q m μ ι := .mk fun hp tk S => BoolOp_one (h.run hp tk S)
theorem W.or1 {e : Expr} {pos : Pos} {Q : Po Value} (h : c.W (eval e (c.env sc)) Q m μ ι) : c.W (eval (.BoolOp .Or [e] pos) (c.env sc)) Q m μ ι := .mk fun hp tk S => BoolOp_one (h.run hp tk S)
theorem W.andB {e₁ e₂ : Expr} {rest : List Expr} {pos : Pos} {Q : Po Value}
    (h : c.W (eval e₁ (c.env sc)) (fun v m μ ι => ∃ b, v = .bool b ∧ if b then c.W (eval (.BoolOp .And (e₂ :: rest) pos) (c.env sc)) Q m μ ι else Q (.bool false) m μ ι) m μ ι) : c.W (eval (.BoolOp .And (e₁ :: e₂ :: rest) pos) (c.env sc)) Q m μ ι :=
  .mk fun hp tk S => BoolOp_and (W.open (h.run hp tk S) fun v _ _ _ _ _ S' q => by
    refine oEA q ?_; clear q; intro b zo1 q; obtain rfl := zo1
    refine wpAny_truthy_bool ?_
    cases b
    · exact S'.same q
    · exact q.run _ _ S')
theorem W.orB {e₁ e₂ : Expr} {rest : List Expr} {pos : Pos} {Q : Po Value}
    (h : c.W (eval e₁ (c.env sc)) (fun v m μ ι => ∃ b, v = .bool b ∧ if b then Q (.bool true) m μ ι else c.W (eval (.BoolOp .Or (e₂ :: rest) pos) (c.env sc)) Q m μ ι) m μ ι) : c.W (eval (.BoolOp .Or (e₁ :: e₂ :: rest) pos) (c.env sc)) Q m μ ι :=
  .mk fun hp tk S => BoolOp_or (W.open (h.run hp tk S) fun v _ _ _ _ _ S' q => by
    refine oEA q ?_; clear q; intro b zo1 q; obtain rfl := zo1
    refine wpAny_truthy_bool ?_
    cases b
    · exact q.run _ _ S'
    · exact S'.same q)
theorem Cx.Ok.withE {c : Cx} {sc : Scope} {k : Nat} (O : c.Ok sc k) {E : Value → Shared → Prop} (p : PassesOwn (model c.prog c.w) c.A (c.env sc) E) : ({ c with E := E } : Cx).Ok sc k := ⟨O.below, O.inK, O.top, O.frames, O.handled, O.kind, O.depth, O.units, p⟩
theorem St.withE {c : Cx} {m : Lc} {μ ι : Led} {h : Heap} {E : Value → Shared → Prop} (S : St c m μ ι h) : St { c with E := E } m μ ι h := ⟨S.F, S.N, S.D⟩
theorem St.ofE {c : Cx} {m : Lc} {μ ι : Led} {h : Heap} {E : Value → Shared → Prop} (S : St { c with E := E } m μ ι h) : St c m μ ι h := ⟨S.F, S.N, S.D⟩
theorem W.try_ {body : List Stmt} {h₀ : ExceptHandler} {hs : List ExceptHandler} {rest : List Stmt} {pos : Pos} {Q : Po Flow} (h : ({ c with E := bad } : Cx).W (execs body (({ c with E := bad } : Cx).env sc)) (c.then_ sc rest Q) m μ ι) :
    c.W (execs (.Try body (h₀ :: hs) [] [] pos :: rest) (c.env sc)) Q m μ ι := W.execs_cons <| .mk fun hp tk S => by
  have z : wpAny (model c.prog c.w) c.A (execs body (c.env sc)) (({ c with E := bad } : Cx).ans (c.then_ sc rest Q)) bad (c.sh hp tk) := h.run hp tk S.withE
  refine wpAny_Try_except (wpAny_mono z (fun f s₁ x => ?_) fun _ _ x => x.elim)
  refine oEEEEEAA x ?_; clear x; intro h' tk' m' μ' ι' zo5 S' q; obtain rfl := zo5
  cases f
  case next => exact wpAny_execs_nil (S'.ofE.same (Q := c.then_ sc rest Q) (a := Flow.next) q)
  all_goals exact S'.ofE.same (Q := c.then_ sc rest Q) q
theorem W.neRow {a b : Value} {d e : PyData} {Q : Po Value} (O : c.Ok sc k) (ra : RowV ι a d) (rb : RowV ι b e) (ha : d.canLay0 = true) (hb : e.canLay0 = true) (da : d.depth ≤ 64) (db : e.depth ≤ 64) (q : Q (.bool (!PyData.eqv d e)) m μ ι) : c.W (compareOp .NotEq a b) Q m μ ι := .mk fun hp tk S => by
  obtain ⟨as, xa⟩ := (ra.mono (Sub.right (a := μ))).reads S.N
  obtain ⟨bs, xb⟩ := (rb.mono (Sub.right (a := μ))).reads S.N
  refine ne_dataH xa xb (by unfold SeqAt.shaped; rw [ha, Bool.true_and]; exact decide_eq_true da) (by unfold SeqAt.shaped; rw [hb, Bool.true_and]; exact decide_eq_true db) (by have := O.units; walk_at "o") (S.same q)
noncomputable def storeAll : List Str → List Value → Lc → Lc
  | n :: ns, v :: vs, m => storeAll ns vs ((n, v) :: m)
  | _, _, m => m
theorem W.inOrder (hk : sc.kind = .function) : ∀ {ns : List Str} {vs : List Value} {m : Lc} {Q : Po Unit}, ns.length = vs.length → (ns.all fun n => sc.names.lookup n == some .local) = true → Q () (storeAll ns vs m) μ ι → c.W (assignInOrder (ns.map fun n => bindName (c.env sc) n) vs) Q m μ ι
  | [], [], m, Q, _, _, q => .mk fun hp tk S => wpAny_pure (S.same q)
  | n :: ns, v :: vs, m, Q, hl, ha, q => .mk fun hp tk S => by
    simp only [List.all_cons, Bool.and_eq_true, beq_iff_eq] at ha
    refine assignInOrder_cons (bindName_ (W.open ((W.storeName (Q := fun _ m μ ι => c.W (assignInOrder (ns.map fun n => bindName (c.env sc) n) vs) Q m μ ι) hk ha.1 (W.inOrder hk (by simpa using hl) ha.2 q)).run hp tk S) fun _ _ _ _ _ _ S' q => q.run _ _ S'))
theorem W.inOrderN (hk : sc.kind = .function) : ∀ {es : List (Str × Pos)} {vs : List Value} {m : Lc} {Q : Po Unit}, es.length = vs.length → (es.all fun n => sc.names.lookup n.1 == some .local) = true → Q () (storeAll (es.map (·.1)) vs m) μ ι → c.W (assignInOrder (es.map fun n => PySem.assign (.Name n.1 n.2) (c.env sc)) vs) Q m μ ι
  | [], [], m, Q, _, _, q => .mk fun hp tk S => wpAny_pure (S.same q)
  | n :: ns, v :: vs, m, Q, hl, ha, q => .mk fun hp tk S => by
    simp only [List.all_cons, Bool.and_eq_true, beq_iff_eq] at ha
    refine assignInOrder_cons (assign_Name (W.open ((W.storeName (Q := fun _ m μ ι => c.W (assignInOrder (ns.map fun n => PySem.assign (.Name n.1 n.2) (c.env sc)) vs) Q m μ ι) hk ha.1 (W.inOrderN hk (by simpa using hl) ha.2 q)).run hp tk S) fun _ _ _ _ _ _ S' q => q.run _ _ S'))
theorem W.asgSwap {elts : List Expr} {j : Nat} {tpos pos : Pos} {value : Expr} {rest : List Stmt} {names : List Str} {Q : Po Flow} (O : c.Ok sc k)
    (h : c.W (eval value (c.env sc)) (fun v m μ ι => ∃ vs, TupF ι v vs ∧ vs.length = names.length ∧ c.W (execs rest (c.env sc)) Q (storeAll names.reverse vs.reverse m) μ ι) m μ ι)
    (hl : (names.all fun n => sc.names.lookup n == some .local) = true := by kernel_rfl)
    (hs : swapsWithSole [.Tuple elts j tpos] value pos.line (c.env sc) = pure false := by with_unfolding_all rfl) (hw : swappedStores [.Tuple elts j tpos] value (c.env sc) = pure (some names) := by with_unfolding_all rfl) :
    c.W (execs (.Assign [.Tuple elts j tpos] value pos :: rest) (c.env sc)) Q m μ ι := W.execs_cons <| .mk fun hp tk S => by
  refine Assign_Tuple_swapped (W.open (h.run hp tk S) fun v h' tk' m' μ' ι' S' q => ?_) hs hw
  refine oEAA q ?_; clear q; intro vs t hn q
  refine oEA (t.isTup S') fun a zo1 ht => ?_; obtain rfl := zo1
  refine oEA S'.F fun mf F hm => ?_
  refine unpackItemsN_ F S'.N ht O.handled (by rw [List.size_toArray, hn]) fun h'' F' N' => ?_
  have S'' : St c m' μ' ι' h'' := ⟨⟨mf, F', hm⟩, N', S'.D⟩
  exact W.open ((W.inOrder (Q := fun _ => c.W (execs rest (c.env sc)) Q) O.kind (by simp [hn]) (by rw [List.all_reverse]; exact hl) q).run h'' tk' S'') fun _ _ _ _ _ _ S₃ q₃ => S₃.same (Q := c.then_ sc rest Q) (a := Flow.next) q₃
theorem W.asgTup {elts : List Expr} {j : Nat} {tpos pos : Pos} {value : Expr} {rest : List Stmt} {es : List (Str × Pos)} {Q : Po Flow} (O : c.Ok sc k) (he : elts = es.map fun n => .Name n.1 n.2)
    (h : c.W (eval value (c.env sc)) (fun v m μ ι => ∃ vs, TupF ι v vs ∧ vs.length = es.length ∧ c.W (execs rest (c.env sc)) Q (storeAll (es.map (·.1)) vs m) μ ι) m μ ι)
    (hl : (es.all fun n => sc.names.lookup n.1 == some .local) = true := by kernel_rfl)
    (ha : assignEach elts (c.env sc) = es.map fun n => (false, PySem.assign (.Name n.1 n.2) (c.env sc)) := by with_unfolding_all rfl)
    (hs : swapsWithSole [.Tuple elts j tpos] value pos.line (c.env sc) = pure false := by with_unfolding_all rfl) (hw : swappedStores [.Tuple elts j tpos] value (c.env sc) = pure none := by with_unfolding_all rfl) :
    c.W (execs (.Assign [.Tuple elts j tpos] value pos :: rest) (c.env sc)) Q m μ ι := W.execs_cons <| .mk fun hp tk S => by
  refine Assign_Tuple (W.open (h.run hp tk S) fun v h' tk' m' μ' ι' S' q => ?_) hs hw
  refine oEAA q ?_; clear q; intro vs t hn q
  refine oEA (t.isTup S') fun a zo1 ht => ?_; obtain rfl := zo1
  refine oEA S'.F fun mf F hm => ?_
  refine unpackN_ F S'.N ht O.handled (by rw [ha]; simp [hn]) (by rw [ha, List.findIdx?_map]; simp [List.findIdx?_eq_none_iff]) fun h'' F' N' => ?_
  have S'' : St c m' μ' ι' h'' := ⟨⟨mf, F', hm⟩, N', S'.D⟩
  rw [ha, List.map_map]
  exact W.open ((W.inOrderN (Q := fun _ => c.W (execs rest (c.env sc)) Q) O.kind (by simp [hn]) hl q).run h'' tk' S'') fun _ _ _ _ _ _ S₃ q₃ => S₃.same (Q := c.then_ sc rest Q) (a := Flow.next) q₃
theorem W.asgSub {o i e : Expr} {p pos : Pos} {rest : List Stmt} {Q : Po Flow} (h : c.W (eval e (c.env sc)) (fun v => c.W (eval o (c.env sc)) (fun ov => c.W (eval i (c.env sc)) (fun iv => c.W (setItem ov iv v) (fun _ => c.W (execs rest (c.env sc)) Q)))) m μ ι)
    (hs : swapsWith e (some (.Subscript o i p)) pos.line (c.env sc) = pure false := by with_unfolding_all rfl) : c.W (execs (.Assign [.Subscript o i p] e pos :: rest) (c.env sc)) Q m μ ι := by
  refine W.execs_cons <| .mk fun hp tk S => wpAny_Assign_Subscript (W.open (h.run hp tk S) fun _ _ _ _ _ _ S' q => W.open (q.run _ _ S') fun _ _ _ _ _ _ S' q => W.open (q.run _ _ S') fun _ _ _ _ _ _ S' q => W.open (q.run _ _ S') fun _ _ _ _ _ _ S' q => S'.same (Q := c.then_ sc rest Q) (a := Flow.next) q) hs
end
theorem InstF.ofI {μ ι : Led} {v : Value} {C : Addr} {fs : Lc} (I : InstF ι v C fs) : InstF (μ ++ ι) v C fs := I.mono Sub.right
theorem InstF.ofM {μ ι : Led} {x C dx : Addr} {o : Obj} {fs : Lc} (hx : (x, instObj C dx) ∈ ι) (hd : (dx, o) ∈ μ) (d : DObj o fs) : InstF (μ ++ ι) (.ref x) C fs := by
  refine oEEAA d ?_; clear d; intro es n zo2 f _; obtain rfl := zo2
  exact ⟨x, dx, es, n, rfl, List.mem_append.mpr (.inr hx), List.mem_append.mpr (.inl hd), f⟩
noncomputable def upd (nm : Str) (u : Value) : Lc → Lc
  | [] => []
  | (y, v) :: r => if y == nm then (y, u) :: r else (y, v) :: upd nm u r
theorem upd_len (nm : Str) (u : Value) : ∀ l : Lc, (upd nm u l).length = l.length
  | [] => rfl
  | (y, v) :: r => by unfold upd; split <;> simp [upd_len nm u r]
theorem upd_lookup (nm : Str) (u : Value) (x : Str) : ∀ l : Lc, (l.lookup nm).isSome = true → (upd nm u l).lookup x = ((nm, u) :: l).lookup x
  | [], h => by simp at h
  | (y, v) :: r, h => by
    unfold upd
    by_cases e : (y == nm) = true
    · rw [if_pos e]
      have e' := beq_iff_eq.mp e
      subst e'
      simp only [List.lookup]
      split <;> rfl
    · rw [if_neg e]
      have ne : (nm == y) = false := by rw [beq_eq_false_iff_ne]; exact fun q => e (by rw [q, beq_self_eq_true])
      have h' : (r.lookup nm).isSome = true := by simpa [List.lookup, ne] using h
      have ih := upd_lookup nm u x r h'
      simp only [List.lookup] at ih ⊢
      by_cases q : (x == y) = true
      · have q' := beq_iff_eq.mp q
        subst q'
        have : (x == nm) = false := by rw [beq_eq_false_iff_ne]; exact fun z => by rw [z, beq_self_eq_true] at ne; cases ne
        simp [this]
      · simp only [q, ih]
theorem putL_len_eq (nm : Str) (hsh : Int) (key v : Value) : ∀ es : List DictEntry, es.any (·.key.isStr nm) = true → (putL nm hsh key v es).length = es.length
  | [], h => by simp at h
  | e :: r, h => by
    unfold putL
    split
    · simp
    · rename_i q
      have : r.any (·.key.isStr nm) = true := by simpa [q] using h
      simp [putL_len_eq nm hsh key v r this]
structure BuiltF (x : Str) (v : Value) : Prop where
  no : NoGlobF x
  is : bootBuiltins x = some v
  ne : x ≠ "__name__"
section
variable {c : Cx} {sc : Scope} {m : Lc} {μ ι ρ : Led} {k : Nat}
theorem W.fld_ {v u : Value} {C : Addr} {fs : Lc} {nm : Str} {Q : Po Value} (O : c.Ok sc k) (I : InstF ι v C fs) (a : At nm u fs) (ok : FieldF C nm) (q : Q u m μ ι) (hh : handedIn u = true := by with_unfolding_all rfl) : c.W (getAttr v nm true) Q m μ ι := W.fld O I.ofI a ok.attr q hh
theorem W.fldM {x C dx : Addr} {o : Obj} {u : Value} {fs : Lc} {nm : Str} {Q : Po Value} (O : c.Ok sc k) (hx : (x, instObj C dx) ∈ ι) (hd : (dx, o) ∈ μ) (d : DObj o fs) (a : At nm u fs) (ok : FieldF C nm) (q : Q u m μ ι) (hh : handedIn u = true := by with_unfolding_all rfl) : c.W (getAttr (.ref x) nm true) Q m μ ι := W.fld O (.ofM hx hd d) a ok.attr q hh
theorem W.meth_ {v : Value} {C f : Addr} {fs : Lc} {nm : Str} {pl : Sem Bool} {Q : Po (Value × List Value)} (O : c.Ok sc k) (I : InstF ι v C fs) (a : nowhere nm fs = true) (ok : MethF C nm f) (q : Q (.ref f, [v]) m μ ι) : c.W (getMethod v nm pl) Q m μ ι := W.meth O I.ofI a ok q
theorem W.methM {x C dx : Addr} {o : Obj} {f : Addr} {fs : Lc} {nm : Str} {pl : Sem Bool} {Q : Po (Value × List Value)} (O : c.Ok sc k) (hx : (x, instObj C dx) ∈ ι) (hd : (dx, o) ∈ μ) (d : DObj o fs) (a : nowhere nm fs = true) (ok : MethF C nm f) (q : Q (.ref f, [.ref x]) m μ ι) : c.W (getMethod (.ref x) nm pl) Q m μ ι := W.meth O (.ofM hx hd d) a ok q
theorem W.built {Q : Po Value} {x : Str} {pos : Pos} {v : Value} (O : c.Ok sc k) (e : BuiltF x v) (q : Q v m μ ι) (hk : sc.kind = .function := by with_unfolding_all rfl) (hx : sc.names.lookup x = some .globalImplicit := by kernel_rfl) (hd : (x == ("__debug__" : Str)) = false := by kernel_rfl) :
    c.W (eval (.Name x pos) (c.env sc)) Q m μ ι := W.globB O e.no e.is e.ne q hk hx hd
theorem W.setU {x C dx : Addr} {u : Value} {fs fs' : Lc} {nm : Str} {μ₁ μ₂ : Led} {o : Obj} {Q : Po Unit} (O : c.Ok sc k) (hx : (x, instObj C dx) ∈ ι) (d : DObj o fs) (ok : FieldF C nm)
    (he : upd nm u fs = fs') (hin : (fs.lookup nm).isSome = true) (q : ∀ o', DObj o' fs' → Q () m (μ₁ ++ (dx, o') :: μ₂) ι) : c.W (setAttr (.ref x) nm u) Q m (μ₁ ++ (dx, o) :: μ₂) ι := .mk fun hp tk S => by
  subst he
  refine oEEAAA d ?_; clear d; intro es n zo2 f h1 h2; obtain rfl := zo2
  refine oEA ok.set.ex fun K X ok => ?_
  refine oEA S.F fun mf F hf => ?_
  refine oAAA (setOk.parts (ok c.w.params)) fun o1 o2 o3 o4 => ?_
  have hany : es.any (·.key.isStr nm) = true := by rw [f.any, hin]
  have hlen := putL_len_eq nm (PyData.keyHash c.w.params nm) (.str nm ((c.sh hp tk).toks + 1)) u es hany
  refine set_dict (K := K c.w.params) (m := mf) F (X _ _ O.inK) S.N (InstAt.of_news S.N (List.mem_append.mpr (.inr hx)) (List.mem_append.mpr (.inl (List.mem_append.mpr (.inr (.head _)))))) rfl o1 o2 o3 o4 (by rw [f nm]; rfl) rfl (upd_of S.D) (by walk_at "o") fun h' F' N' => ?_
  exact ⟨h', tk + 2, m, _, ι, rfl, ⟨⟨mf, F', hf⟩, N', S.D.set⟩, q _ ⟨_, _, rfl, (f.put nm _ _ u).swap (upd_lookup nm u · fs hin), by rw [upd_len]; exact Nat.le_trans (Nat.le_of_eq hlen) h1, by rw [upd_len]; exact h2⟩⟩
theorem W.withT {T : String} {e : Expr} {rest : List Expr} {pos : Pos} {Q : Po Value} (h : c.W (spliced (backTo pos (starEach (e :: rest) (c.env sc)))) (fun vs => c.W (PySem.call (.type T) vs) Q) m μ ι)
    (he : starEach (e :: rest) (c.env sc) = (false, eval e (c.env sc)) :: starEach rest (c.env sc) := by with_unfolding_all rfl) (hplain : (backTo pos (starEach rest (c.env sc))).any (·.1) = false := by with_unfolding_all rfl) :
    c.W (callWith pos (.type T) [] (backTo pos (starEach (e :: rest) (c.env sc))) []) Q m μ ι :=
  .mk fun hp tk S => callWith_type1 (W.open (h.run hp tk S) fun _ _ _ _ _ _ S' q => q.run _ _ S') he hplain
theorem W.iteT {b : Bool} {A B : Prop} (h : b = true) (a : A) : if b = true then A else B := by rw [if_pos h]; exact a
theorem W.iteF {b : Bool} {A B : Prop} (h : b = false) (a : B) : if b = true then A else B := by rw [if_neg (by rw [h]; exact Bool.false_ne_true)]; exact a
theorem Sub.mem {a b : Led} {p : Addr × Obj} (h : p ∈ a) (s : Sub a b) : p ∈ b := s p h
end
inductive BTab : Str → Value → Prop
  | len : BTab s_len (.builtin "len")
  | isinstance : BTab s_isinstance (.builtin "isinstance")
  | tuple : BTab s_tuple (.type "tuple")
  | abs : BTab s_abs (.builtin "abs")
  | str : BTab s_str (.type "str")
  | min : BTab s_min (.builtin "min")
  | max : BTab s_max (.builtin "max")
  | range : BTab s_range (.type "range")
theorem bT {x : Str} {v : Value} (h : BTab x v) : BuiltF x v := BTab.rec (motive := fun x v _ => BuiltF x v)
  ⟨bF_len, by kernel_rfl, by decide⟩
  ⟨bF_isinstance, by kernel_rfl, by decide⟩
  ⟨bF_tuple, by kernel_rfl, by decide⟩
  ⟨bF_abs, by kernel_rfl, by decide⟩
  ⟨bF_str, by kernel_rfl, by decide⟩
  ⟨bF_min, by kernel_rfl, by decide⟩
  ⟨bF_max, by kernel_rfl, by decide⟩
  ⟨bF_range, by kernel_rfl, by decide⟩ h
structure EvA (c : Cx) (sc : Scope) (m : Lc) (μ ι : Led) (es : List Expr) (F : (List Value → Prop) → Prop) : Prop where
  run : ∀ (pos : Pos) (Q : Po (List Value)), F (fun vs => Q vs m μ ι) → c.W (spliced (backTo pos (starEach es (c.env sc)))) Q m μ ι
section
variable {c : Cx} {sc : Scope} {m : Lc} {μ ι : Led} {k : Nat} {es : List Expr} {F : (List Value → Prop) → Prop} {x : Str} {v : Value} {pos xp : Pos}
theorem EvA.nil : EvA c sc m μ ι [] (fun R => R []) := ⟨fun _ _ h => W.args0 h⟩
theorem EvA.name (a : At x v m) (E : EvA c sc m μ ι es F) (hk : sc.kind = .function := by with_unfolding_all rfl) (hx : sc.names.lookup x = some .local := by kernel_rfl) (hd : (x == ("__debug__" : Str)) = false := by kernel_rfl) :
    EvA c sc m μ ι (.Name x pos :: es) (fun R => F fun vs => R (v :: vs)) := ⟨fun p Q h => W.args (W.name a (E.run p _ h) hk hx hd)⟩
theorem EvA.glob (O : c.Ok sc k) (g : GlobF x v) (E : EvA c sc m μ ι es F) (hk : sc.kind = .function := by with_unfolding_all rfl) (hx : sc.names.lookup x = some .globalImplicit := by kernel_rfl) (hd : (x == ("__debug__" : Str)) = false := by kernel_rfl) :
    EvA c sc m μ ι (.Name x pos :: es) (fun R => F fun vs => R (v :: vs)) := ⟨fun p Q h => W.args (W.glob O g (E.run p _ h) hk hx hd)⟩
theorem EvA.int {i : Int} {j : Nat} (E : EvA c sc m μ ι es F) : EvA c sc m μ ι (.Constant (.int i) j pos :: es) (fun R => ∀ t, F fun vs => R (.int i t :: vs)) := ⟨fun p Q h => W.args (W.cint fun t => E.run p _ (h t))⟩
theorem EvA.str {i : Str} {j : Nat} (E : EvA c sc m μ ι es F) : EvA c sc m μ ι (.Constant (.str i) j pos :: es) (fun R => ∀ t, F fun vs => R (.str i t :: vs)) := ⟨fun p Q h => W.args (W.cstr fun t => E.run p _ (h t))⟩
theorem EvA.none {j : Nat} (E : EvA c sc m μ ι es F) : EvA c sc m μ ι (.Constant .none j pos :: es) (fun R => F fun vs => R (.none :: vs)) := ⟨fun p Q h => W.args (W.cnone (E.run p _ h))⟩
theorem EvA.bool {b : Bool} {j : Nat} (E : EvA c sc m μ ι es F) : EvA c sc m μ ι (.Constant (.bool b) j pos :: es) (fun R => F fun vs => R (.bool b :: vs)) := ⟨fun p Q h => W.args (W.cbool (E.run p _ h))⟩
theorem EvA.pure {e : Expr} (a : ∀ Q : Po Value, Q v m μ ι → c.W (eval e (c.env sc)) Q m μ ι) (E : EvA c sc m μ ι es F) (he : starEach (e :: es) (c.env sc) = (false, eval e (c.env sc)) :: starEach es (c.env sc) := by with_unfolding_all rfl) :
    EvA c sc m μ ι (e :: es) (fun R => F fun vs => R (v :: vs)) := ⟨fun p Q h => W.args (a _ (E.run p _ h)) he⟩
theorem W.evA {Q : Po (List Value)} (E : EvA c sc m μ ι es F) (q : F fun vs => Q vs m μ ι) : c.W (spliced (backTo pos (starEach es (c.env sc)))) Q m μ ι := E.run _ _ q
theorem W.argN {Q : Po (List Value)} (a : At x v m) (q : c.W (spliced (backTo pos (starEach es (c.env sc)))) (fun vs => Q (v :: vs)) m μ ι)
    (hk : sc.kind = .function := by with_unfolding_all rfl) (hx : sc.names.lookup x = some .local := by kernel_rfl) (hd : (x == ("__debug__" : Str)) = false := by kernel_rfl) : c.W (spliced (backTo pos (starEach (.Name x xp :: es) (c.env sc)))) Q m μ ι := W.args (W.name a q hk hx hd)
theorem W.argG {Q : Po (List Value)} (O : c.Ok sc k) (g : GlobF x v) (q : c.W (spliced (backTo pos (starEach es (c.env sc)))) (fun vs => Q (v :: vs)) m μ ι)
    (hk : sc.kind = .function := by with_unfolding_all rfl) (hx : sc.names.lookup x = some .globalImplicit := by kernel_rfl) (hd : (x == ("__debug__" : Str)) = false := by kernel_rfl) : c.W (spliced (backTo pos (starEach (.Name x xp :: es) (c.env sc)))) Q m μ ι := W.args (W.glob O g q hk hx hd)
theorem W.argI {Q : Po (List Value)} {i : Int} {j : Nat} (q : ∀ t, c.W (spliced (backTo pos (starEach es (c.env sc)))) (fun vs => Q (.int i t :: vs)) m μ ι) : c.W (spliced (backTo pos (starEach (.Constant (.int i) j xp :: es) (c.env sc)))) Q m μ ι := W.args (W.cint q)
theorem W.argS {Q : Po (List Value)} {i : Str} {j : Nat} (q : ∀ t, c.W (spliced (backTo pos (starEach es (c.env sc)))) (fun vs => Q (.str i t :: vs)) m μ ι) : c.W (spliced (backTo pos (starEach (.Constant (.str i) j xp :: es) (c.env sc)))) Q m μ ι := W.args (W.cstr q)
theorem W.callG {Q : Po Value} {e : Expr} (O : c.Ok sc k) (g : GlobF x v) (kf : KeepF v) (E : EvA c sc m μ ι (e :: es) F) (q : F fun vs => c.W (PySem.call v vs) Q m μ ι)
    (hk : sc.kind = .function := by with_unfolding_all rfl) (hx : sc.names.lookup x = some .globalImplicit := by kernel_rfl) (hd : (x == ("__debug__" : Str)) = false := by kernel_rfl)
    (he : starEach (e :: es) (c.env sc) = (false, eval e (c.env sc)) :: starEach es (c.env sc) := by with_unfolding_all rfl) (hplain : (backTo pos (starEach es (c.env sc))).any (·.1) = false := by with_unfolding_all rfl) :
    c.W (eval (.Call (.Name x xp) (e :: es) [] pos) (c.env sc)) Q m μ ι := W.call_ (W.glob O g (W.withN O kf (E.run _ _ q) he hplain) hk hx hd)
theorem W.callGq {Q : Po Value} {e : Expr} (O : c.Ok sc k) (g : GlobF x v) (kf : KeepF v) (q : c.W (spliced (backTo pos (starEach (e :: es) (c.env sc)))) (fun vs => c.W (PySem.call v vs) Q) m μ ι)
    (hk : sc.kind = .function := by with_unfolding_all rfl) (hx : sc.names.lookup x = some .globalImplicit := by kernel_rfl) (hd : (x == ("__debug__" : Str)) = false := by kernel_rfl)
    (he : starEach (e :: es) (c.env sc) = (false, eval e (c.env sc)) :: starEach es (c.env sc) := by with_unfolding_all rfl) (hplain : (backTo pos (starEach es (c.env sc))).any (·.1) = false := by with_unfolding_all rfl) :
    c.W (eval (.Call (.Name x xp) (e :: es) [] pos) (c.env sc)) Q m μ ι := W.call_ (W.glob O g (W.withN O kf q he hplain) hk hx hd)
theorem W.callB {id : String} {Q : Po Value} {e : Expr} (O : c.Ok sc k) (b : BuiltF x (.builtin id)) (E : EvA c sc m μ ι (e :: es) F) (q : F fun vs => c.W (PySem.call (.builtin id) vs) Q m μ ι)
    (hk : sc.kind = .function := by with_unfolding_all rfl) (hx : sc.names.lookup x = some .globalImplicit := by kernel_rfl) (hd : (x == ("__debug__" : Str)) = false := by kernel_rfl)
    (he : starEach (e :: es) (c.env sc) = (false, eval e (c.env sc)) :: starEach es (c.env sc) := by with_unfolding_all rfl) (hplain : (backTo pos (starEach es (c.env sc))).any (·.1) = false := by with_unfolding_all rfl) :
    c.W (eval (.Call (.Name x xp) (e :: es) [] pos) (c.env sc)) Q m μ ι := W.call_ (W.built O b (W.withB (first := []) (E.run _ _ q) he hplain) hk hx hd)
theorem W.callTy {T : String} {Q : Po Value} {e : Expr} (O : c.Ok sc k) (b : BuiltF x (.type T)) (E : EvA c sc m μ ι (e :: es) F) (q : F fun vs => c.W (PySem.call (.type T) vs) Q m μ ι)
    (hk : sc.kind = .function := by with_unfolding_all rfl) (hx : sc.names.lookup x = some .globalImplicit := by kernel_rfl) (hd : (x == ("__debug__" : Str)) = false := by kernel_rfl)
    (he : starEach (e :: es) (c.env sc) = (false, eval e (c.env sc)) :: starEach es (c.env sc) := by with_unfolding_all rfl) (hplain : (backTo pos (starEach es (c.env sc))).any (·.1) = false := by with_unfolding_all rfl) :
    c.W (eval (.Call (.Name x xp) (e :: es) [] pos) (c.env sc)) Q m μ ι := W.call_ (W.built O b (W.withT (E.run _ _ q) he hplain) hk hx hd)
theorem W.withNA {Q : Po Value} {e : Expr} (O : c.Ok sc k) (kf : KeepF v) (E : EvA c sc m μ ι (e :: es) F) (q : F fun vs => c.W (PySem.call v vs) Q m μ ι)
    (he : starEach (e :: es) (c.env sc) = (false, eval e (c.env sc)) :: starEach es (c.env sc) := by with_unfolding_all rfl) (hplain : (backTo pos (starEach es (c.env sc))).any (·.1) = false := by with_unfolding_all rfl) :
    c.W (callWith pos v [] (backTo pos (starEach (e :: es) (c.env sc))) []) Q m μ ι := W.withN O kf (E.run _ _ q) he hplain
theorem W.withA {Q : Po Value} {e : Expr} {first : List Value} (O : c.Ok sc k) (kf : KeepF v) (E : EvA c sc m μ ι (e :: es) F) (q : F fun vs => c.W (PySem.call v (first ++ vs)) Q m μ ι)
    (he : starEach (e :: es) (c.env sc) = (false, eval e (c.env sc)) :: starEach es (c.env sc) := by with_unfolding_all rfl) (hplain : (backTo pos (starEach es (c.env sc))).any (·.1) = false := by with_unfolding_all rfl) :
    c.W (callWith pos v first (backTo pos (starEach (e :: es) (c.env sc))) []) Q m μ ι := W.with_ O kf (E.run _ _ q) he hplain
theorem W.tupA {j : Nat} {Q : Po Value} (E : EvA c sc m μ ι es F) (q : F fun vs => c.W (newTuple vs) Q m μ ι) : c.W (eval (.Tuple es j pos) (c.env sc)) Q m μ ι := W.tuple (E.run _ _ q)
theorem W.listA {Q : Po Value} (E : EvA c sc m μ ι es F) (q : F fun vs => c.W (newList vs) Q m μ ι) : c.W (eval (.List es pos) (c.env sc)) Q m μ ι := W.list (E.run _ _ q)
theorem W.callG0 {Q : Po Value} (O : c.Ok sc k) (g : GlobF x v) (kf : KeepF v) (q : c.W (PySem.call v []) Q m μ ι)
    (hk : sc.kind = .function := by with_unfolding_all rfl) (hx : sc.names.lookup x = some .globalImplicit := by kernel_rfl) (hd : (x == ("__debug__" : Str)) = false := by kernel_rfl) :
    c.W (eval (.Call (.Name x xp) [] [] pos) (c.env sc)) Q m μ ι := W.call_ (W.glob O g (W.with0N O kf q) hk hx hd)
theorem W.attrN {Q : Po Value} {a : Str} (h : At x v m) (q : c.W (getAttr v a true) Q m μ ι) (hk : sc.kind = .function := by with_unfolding_all rfl) (hx : sc.names.lookup x = some .local := by kernel_rfl) (hd : (x == ("__debug__" : Str)) = false := by kernel_rfl) :
    c.W (eval (.Attribute (.Name x xp) a pos) (c.env sc)) Q m μ ι := W.attr (W.name h q hk hx hd)
theorem W.mcallN {Q : Po Value} {nm : Str} {apos : Pos} {pl : Sem Bool} (h : At x v m) (q : c.W (getMethod v nm pl) (fun fx => c.W (callWith pos fx.1 fx.2 (backTo pos (starEach es (c.env sc))) []) Q) m μ ι)
    (he : eval (.Call (.Attribute (.Name x xp) nm apos) es [] pos) (c.env sc) = (do
      let ov ← eval (.Name x xp) (c.env sc)
      standAt apos.atName
      let (f, first) ← holding [ov] (getMethod ov nm pl)
      callWith pos f first (backTo pos (starEach es (c.env sc))) []) := by with_unfolding_all rfl) (hk : sc.kind = .function := by with_unfolding_all rfl) (hx : sc.names.lookup x = some .local := by kernel_rfl) (hd : (x == ("__debug__" : Str)) = false := by kernel_rfl) :
    c.W (eval (.Call (.Attribute (.Name x xp) nm apos) es [] pos) (c.env sc)) Q m μ ι := W.mcall (W.name h q hk hx hd) he
section
variable {Q : Po Flow} {b o rest : List Stmt} {p1 p2 p3 p4 : Pos} {j : Nat}
theorem W.ifEqI {i g : Int} {u : Tok} (a : At x (.int g u) m) (q : if (g == i) = true then c.W (execs b (c.env sc)) (c.then_ sc rest Q) m μ ι else c.W (execs o (c.env sc)) (c.then_ sc rest Q) m μ ι)
    (hk : sc.kind = .function := by with_unfolding_all rfl) (hx : sc.names.lookup x = some .local := by kernel_rfl) (hd : (x == ("__debug__" : Str)) = false := by kernel_rfl) :
    c.W (execs (.If (.Compare (.Name x p1) [.Eq] [.Constant (.int i) j p2] p3) b o p4 :: rest) (c.env sc)) Q m μ ι := W.if_ (W.isCmp (W.name a (W.cint fun t => W.eqI (W.truthyB q)) hk hx hd))
theorem W.ifEqS {i g : Str} {u : Tok} (a : At x (.str g u) m) (q : if (g == i) = true then c.W (execs b (c.env sc)) (c.then_ sc rest Q) m μ ι else c.W (execs o (c.env sc)) (c.then_ sc rest Q) m μ ι)
    (hk : sc.kind = .function := by with_unfolding_all rfl) (hx : sc.names.lookup x = some .local := by kernel_rfl) (hd : (x == ("__debug__" : Str)) = false := by kernel_rfl) :
    c.W (execs (.If (.Compare (.Name x p1) [.Eq] [.Constant (.str i) j p2] p3) b o p4 :: rest) (c.env sc)) Q m μ ι := W.if_ (W.isCmp (W.name a (W.cstr fun t => W.eqS (W.truthyB q)) hk hx hd))
theorem W.ifQ {e : Expr} {t : Bool} (E : ∀ Q : Po Bool, Q t m μ ι → c.W (isTrue e (c.env sc) (eval e (c.env sc))) Q m μ ι) (q : if t = true then c.W (execs b (c.env sc)) (c.then_ sc rest Q) m μ ι else c.W (execs o (c.env sc)) (c.then_ sc rest Q) m μ ι) :
    c.W (execs (.If e b o pos :: rest) (c.env sc)) Q m μ ι := W.if_ (E _ q)
end
end
structure WordV (ι : Led) (v : Value) (k t : Str) (x : Value) : Prop where
  ex : ∃ a b d t1 t2 t3 t4, InstF ι v 941 [(s_is_first, d), (s_value, x), (s_column, .int a t3), (s_line, .int b t4), (s_text, .str t t1), (s_kind, .str k t2)]
  ok : handedIn x = true
  pl : plainIs x .none = true
theorem WordV.mono {n n' : Led} {v : Value} {k t : Str} {x : Value} (I : WordV n v k t x) (h : Sub n n') : WordV n' v k t x := by refine oEEEEEEE I.ex fun a b d t1 t2 t3 t4 I' => ?_; exact ⟨⟨a, b, d, t1, t2, t3, t4, I'.mono h⟩, I.ok, I.pl⟩
local macro_rules | `(tactic| walk_at "M.fieldF") => `(tactic| with_reducible (apply fF; constructor))
local macro_rules | `(tactic| walk_at "M.methF") => `(tactic| with_reducible (apply mF; constructor))
local macro_rules | `(tactic| walk_at "M.globF") => `(tactic| with_reducible (apply gF; constructor))
local macro_rules | `(tactic| walk_at "M.keepF") => `(tactic| with_reducible (apply kF; constructor))
local macro_rules | `(tactic| walk_at "M.builtF") => `(tactic| with_reducible (apply bT; constructor))
local macro_rules | `(tactic| walk_at "M.at") => `(tactic| first | with_reducible exact At.here | with_reducible assumption | ((repeat (with_reducible apply At.there; kernel_rfl!)); (with_reducible first | exact At.here | assumption)))
local macro_rules | `(tactic| walk_at "M.sub") => `(tactic| first | with_reducible exact Sub.refl | with_reducible assumption | (refine' Sub.trans ?s1 ?s2; (case s1 => with_reducible assumption); (case s2 => walk_at "M.sub")))
local macro_rules | `(tactic| walk_at "M.mono") => `(tactic| ((case h => with_reducible assumption); (case s => walk_at "M.sub")))
local macro_rules | `(tactic| walk_at "M.fact") => `(tactic| first | with_reducible assumption | ((first | refine' WordV.mono ?h ?s | refine' InstF.mono ?h ?s | refine' ListF.mono ?h ?s | refine' TupF.mono ?h ?s | refine' RowV.mono ?s ?h | refine' Sub.mem ?h ?s); walk_at "M.mono"))
local macro_rules | `(tactic| walk_at "M.bind") => `(tactic| (intro P s XX; exact BindsTo.of_eq (by kernel_rfl!)))
local macro_rules | `(tactic| walk_at "M.fnD") => `(tactic| ((case hob => (intro P; rfl)); (case ho => (intro P; kernel_rfl)); (case hco' => (intro P; kernel_rfl)); (case hcd => (intro P; kernel_rfl)); (case hloc => kernel_rfl); (case hco => rfl); (case hgen => rfl); (case hk => rfl); (case hcell => kernel_rfl)))
local macro_rules | `(tactic| walk_at "M.fn") => `(tactic| (walk_at "M.fnD"; (case hbind => walk_at "M.bind")))
local macro_rules | `(tactic| walk_at "M.sz") => `(tactic| exact Nat.le_of_ble_eq_true (by kernel_rfl!))
local macro_rules | `(tactic| walk_at "M.ite") => `(tactic| with_reducible first | refine W.iteT (by kernel_rfl!) ?_ | refine W.iteF (by kernel_rfl!) ?_)
local macro_rules | `(tactic| walk_at "M.name") => `(tactic| first
  | (refine' W.name (v := ?v) ?a ?q; (case a => walk_at "M.at"))
  | (refine' W.built (by assumption) ?b ?q; (case b => walk_at "M.builtF"))
  | (refine' W.glob (by assumption) ?g ?q; (case g => walk_at "M.globF")))
local macro_rules | `(tactic| walk_at "M.fld") => `(tactic| (refine' W.fld_ (by assumption) ?I ?a ?ok ?q ?hh; (case I => walk_at "M.fact"); (case a => walk_at "M.at"); (case ok => walk_at "M.fieldF"); (case hh => rfl)))
local macro_rules | `(tactic| walk_at "M.mem") => `(tactic| first | exact List.Mem.head _ | (refine List.Mem.tail _ ?_; walk_at "M.mem"))
local macro_rules | `(tactic| walk_at "M.memM") => `(tactic| first | exact List.mem_append.mpr (.inr (.head _)) | exact List.Mem.head _ | (refine List.mem_append.mpr (.inr (.tail _ ?_)); walk_at "M.mem") | (refine List.Mem.tail _ ?_; walk_at "M.memM"))
local macro_rules | `(tactic| walk_at "M.fldM") => `(tactic| (refine' W.fldM (by assumption) ?hx ?hd ?d ?a ?ok ?q ?hh; (case hx => walk_at "M.fact"); (case hd => walk_at "M.mem"); (case d => assumption); (case a => walk_at "M.at"); (case ok => walk_at "M.fieldF"); (case hh => first | rfl | assumption)))
local macro_rules | `(tactic| walk_at "M.getA") => `(tactic| first | walk_at "M.fld" | walk_at "M.fldM")
local macro_rules | `(tactic| walk_at "M.meth") => `(tactic| first
  | (refine' W.meth_ (by assumption) ?I ?a ?ok ?q; (case I => walk_at "M.fact"); (case a => kernel_rfl!); (case ok => walk_at "M.methF"))
  | (refine' W.methM (by assumption) ?hx ?hd ?d ?a ?ok ?q; (case hx => walk_at "M.fact"); (case hd => walk_at "M.mem"); (case d => assumption); (case a => kernel_rfl!); (case ok => walk_at "M.methF")))
local macro_rules | `(tactic| walk_at "M.cw") => `(tactic| first
  | ((with_reducible show Cx.W _ (callWith _ (Value.ref _) _ _ _) _ _ _ _); (first
    | ((with_reducible first | refine' W.withNA (by assumption) ?kf ?E ?q | refine' W.withA (by assumption) ?kf ?E ?q); (case kf => walk_at "M.keepF"); (case E => walk_at "M.ev"); intros)
    | ((first | refine' W.with0N (by assumption) ?kf ?q | refine' W.withN (by assumption) ?kf ?q | refine' W.with0 (by assumption) ?kf ?q | refine' W.with_ (by assumption) ?kf ?q); (case kf => walk_at "M.keepF"))))
  | refine W.withB0 ?_ | refine W.withB ?_ | refine W.withT ?_)
local macro_rules | `(tactic| walk_at "M.q") => `(tactic| (intro Q' hQ'; walk_at "rw"; exact hQ'))
local macro_rules | `(tactic| walk_at "M.ev") => `(tactic| first
  | ((with_reducible show EvA _ _ _ _ _ (Expr.Name _ _ :: _) _); (first
    | ((with_reducible refine' EvA.name ?a ?E); (case a => walk_at "M.at"); (case E => walk_at "M.ev"))
    | ((with_reducible refine' EvA.glob (by assumption) ?g ?E); (case g => walk_at "M.globF"); (case E => walk_at "M.ev"))))
  | with_reducible exact EvA.nil
  | ((with_reducible show EvA _ _ _ _ _ (Expr.Constant _ _ _ :: _) _); (with_reducible first | refine' EvA.int ?E | refine' EvA.str ?E | refine' EvA.none ?E | refine' EvA.bool ?E); (case E => walk_at "M.ev"))
  | ((with_reducible show EvA _ _ _ _ _ (Expr.Attribute _ _ _ :: _) _); refine' EvA.pure ?p ?E; (case p => walk_at "M.q"); (case E => walk_at "M.ev")))
local macro_rules | `(tactic| walk_at "M.wx") => `(tactic| first
  | ((with_reducible show Cx.W _ (execs (Stmt.If _ _ _ _ :: _) _) _ _ _ _); (first
    | ((with_reducible show Cx.W _ (execs (Stmt.If (Expr.Compare (Expr.Name _ _) [CmpOp.Eq] [Expr.Constant _ _ _] _) _ _ _ :: _) _) _ _ _ _); (with_reducible first | refine' W.ifEqI ?a ?q | refine' W.ifEqS ?a ?q); (case a => walk_at "M.at"))
    | ((with_reducible refine' W.ifQ ?E ?q); (case E => walk_at "M.q"))
    | with_reducible refine W.if_ ?_))
  | (with_reducible first | refine W.assign ?_ | refine W.ret ?_ | refine W.expr ?_ | refine W.asgAttr ?_ | refine W.asgSub ?_ | refine W.execs_nil ?_))
local macro_rules | `(tactic| walk_at "M.we") => `(tactic| first
  | ((with_reducible show Cx.W _ (eval (Expr.Name _ _) _) _ _ _ _); walk_at "M.name")
  | ((with_reducible show Cx.W _ (eval (Expr.Constant _ _ _) _) _ _ _ _); (with_reducible first | refine W.cstr ?_ | refine W.cint ?_ | refine W.cnone ?_ | refine W.cbool ?_); intros)
  | ((with_reducible show Cx.W _ (eval (Expr.Attribute _ _ _) _) _ _ _ _); (first | ((with_reducible refine' W.attrN ?a ?q); (case a => walk_at "M.at")) | (with_reducible first | refine W.attr ?_ | refine W.attrA ?_)))
  | ((with_reducible show Cx.W _ (eval (Expr.Call (Expr.Attribute _ _ _) _ _ _) _) _ _ _ _); (first | ((with_reducible refine' W.mcallN (pl := _) ?a ?q); (case a => walk_at "M.at")) | with_reducible refine W.mcall (pl := _) ?_))
  | ((with_reducible show Cx.W _ (eval (Expr.Call (Expr.Name _ _) _ _ _) _) _ _ _ _); (first
    | ((with_reducible refine' W.callG (by assumption) ?g ?kf ?E ?q); (case g => walk_at "M.globF"); (case kf => walk_at "M.keepF"); (case E => walk_at "M.ev"); intros)
    | ((with_reducible first | refine' W.callG0 (by assumption) ?g ?kf ?q | refine' W.callGq (by assumption) ?g ?kf ?q); (case g => walk_at "M.globF"); (case kf => walk_at "M.keepF"))
    | ((with_reducible refine' W.callB (by assumption) ?g ?E ?q); (case g => walk_at "M.builtF"); (case E => walk_at "M.ev"); intros)
    | ((with_reducible refine' W.callTy (by assumption) ?g ?E ?q); (case g => walk_at "M.builtF"); (case E => walk_at "M.ev"); intros)))
  | ((with_reducible first | refine' W.tupA ?E ?q | refine' W.listA ?E ?q); (case E => walk_at "M.ev"); intros)
  | ((with_reducible first | refine W.call_ ?_ | refine W.sub ?_ | refine W.list ?_ | refine W.tuple ?_ | refine W.binop ?_ | refine W.cmp ?_ | refine W.ifExp ?_ | refine W.and1 ?_ | refine W.or1 ?_ | refine W.andB ?_ | refine W.orB ?_); intros))
local macro_rules | `(tactic| walk_at "M.w") => `(tactic| first
  | ((with_reducible show Cx.W _ (eval _ _) _ _ _ _); walk_at "M.we")
  | ((with_reducible show Cx.W _ (execs _ _) _ _ _ _); walk_at "M.wx")
  | ((with_reducible show Cx.W _ (spliced _) _ _ _ _); (first | ((with_reducible refine' W.evA ?E ?q); (case E => walk_at "M.ev"); intros) | ((with_reducible refine' W.argN ?a ?q); (case a => walk_at "M.at")) | ((with_reducible refine' W.argG (by assumption) ?g ?q); (case g => walk_at "M.globF")) | ((with_reducible first | refine W.args0 ?_ | refine W.argS ?_ | refine W.argI ?_ | refine W.args ?_); intros)))
  | ((with_reducible show Cx.W _ (isTrue _ _ _) _ _ _ _); (first | ((with_reducible first | refine W.isNot ?_ | refine W.isAnd0 ?_ | refine W.isOr0 ?_ | refine W.isAnd ?_ | refine W.isOr ?_ | refine W.isCmp ?_); intros) | refine W.isPlain ?_))
  | ((with_reducible show Cx.W _ (callWith _ _ _ _ _) _ _ _ _); walk_at "M.cw")
  | ((with_reducible show Cx.W _ (getAttr _ _ _) _ _ _ _); walk_at "M.getA")
  | ((with_reducible show Cx.W _ (getMethod _ _ _) _ _ _ _); walk_at "M.meth")
  | ((with_reducible show Cx.W _ (compareOp _ _ _) _ _ _ _); (with_reducible first | refine W.eqS ?_ | refine W.eqI ?_ | refine W.neS ?_ | refine W.ltI ?_ | refine W.gtI ?_ | refine W.is_ (by with_unfolding_all rfl) ?_ | refine W.isNot_ (by with_unfolding_all rfl) ?_))
  | ((with_reducible first | refine W.truthyB ?_ | refine W.addI ?_ | refine W.subI ?_); intros)
  | ((with_reducible show (ite _ _ _)); walk_at "M.ite")
  | ((with_reducible show Exists _); refine ⟨_, rfl, ?_⟩; (with_reducible show (ite _ _ _)); walk_at "M.ite"))
def Gives (v : Value → Prop) (μ : Led) : Value → Led → Led → Prop := fun r μ' _ => v r ∧ μ' = μ
theorem Ends.gives {v : Value → Prop} {r : Value} {ι ρ μ ι' : Led} {m : Lc} (s : Sub ι ι') (h : v r) : Ends ι ρ (Gives v μ) (.ret r) m (μ ++ ρ) ι' := Ends.ret s ⟨h, rfl⟩
theorem is_word {ι : Led} {v : Value} {k t k' t' : Str} {x : Value} {t1 t2 : Tok} (h : WordV ι v k t x) : Spec 1 938 [v, .str k' t1, .str t' t2] [] ι (Gives (fun r => r = .bool (k == k' && t == t')) []) := by
  obtain ⟨⟨a, b, d, u1, u2, u3, u4, I⟩, _, _⟩ := h
  refine' Spec.intro (k := 0) (loc := [(s_text, .str t' t2), (s_kind, .str k' t1), (s_self, v)]) hd.z938 hd.z937 ?ho ?hob ?hco' ?hcd ?hbind ?hloc ?hco ?hgen ?hk ?hcell ?hb
  walk_at "M.fn"
  intro c ρ O
  walk_at "rw"
  refine ⟨_, rfl, ?_⟩
  cases e : (k == k')
  · refine W.iteF rfl ?_
    exact Ends.gives Sub.refl (by simp)
  · refine W.iteT rfl ?_
    walk_at "rw"
    exact Ends.gives Sub.refl (by simp)
theorem place_ {ι : Led} {v : Value} {k t : Str} {x : Value} (h : WordV ι v k t x) : Spec 1 931 [v] [] ι (fun r μ' _ => (∃ a, r = .ref a) ∧ μ' = []) := by
  obtain ⟨⟨a, b, d, u1, u2, u3, u4, I⟩, _, _⟩ := h
  refine' Spec.intro (k := 0) (loc := [(s_self, v)]) hd.z931 hd.z930 ?ho ?hob ?hco' ?hcd ?hbind ?hloc ?hco ?hgen ?hk ?hcell ?hb
  walk_at "M.fn"
  intro c ρ O
  walk_at "rw"
  refine W.tup_ (by walk_at "M.sz") fun v ι' s t => ?_
  refine oEEA t.ex fun l n zo2 _ => ?_; obtain rfl := zo2
  exact Ends.ret s ⟨⟨_, rfl⟩, rfl⟩
local macro_rules | `(tactic| walk_at "M.set") => `(tactic| (refine W.asgAttr ?_; walk_at "M.w"; walk_at "M.w"; refine' W.setA (μ₁ := []) (by assumption) (List.mem_append.mpr (.inr (by assumption))) (by assumption) ?sf (Nat.le_of_ble_eq_true (by kernel_rfl!)) ?q; (case sf => (refine FieldF.set ?_; first | assumption | walk_at "M.fieldF")); intro _ _))
noncomputable abbrev KNodeS : Params → Frag := frag (2 :: L_Node)
theorem kin_NodeS : Kin KNodeS := kin_frag _
theorem gmNode : ClsMethF 207 "__init__" 197 := ⟨KNodeS, _, kin_NodeS, fun P => ⟨by kernel_rfl, (by kernel_rfl : _ = some (Value.type "type")), by kernel_rfl!, by kernel_rfl⟩⟩
theorem init_Node {x dx C : Addr} {p : Value} {ι : Led} (hx : (x, instObj C dx) ∈ ι) (sf : FieldF C s_place) : Spec 1 197 [.ref x, p] [(dx, emptyDict)] ι (InitR dx fun fs => fs = [(s_place, p)]) := by
  refine' Spec.intro (k := 0) (loc := [(s_place, p), (s_self, .ref x)]) hd.z197 hd.z196 ?ho ?hob ?hco' ?hcd ?hbind ?hloc ?hco ?hgen ?hk ?hcell ?hb
  walk_at "M.fn"
  intro c ρ O
  have hd := DObj.empty
  walk_at "M.set"
  refine W.execs_nil ?_
  refine Ends.none (fl := Flow.next) (μ := [(dx, _)]) (ρ := ρ) rfl Sub.refl ?_
  exact ⟨rfl, _, _, rfl, by assumption, rfl⟩
theorem kNodeInit : KeepF (.ref 197) := ⟨_, cF_Node.kin, fun P => by kernel_rfl⟩
local macro_rules | `(tactic| walk_at "M.node") => `(tactic| (refine W.expr ?_; refine W.mcall (pl := _) ?_; refine W.glob (by assumption) (gF .Node) ?_; refine W.methC (by assumption) gmNode ?_; refine W.with_ (by assumption) kNodeInit ?_; walk_at "rw"))
theorem init_Cursor {x dx : Addr} {v_layout : Value} {ι : Led} (hx : (x, instObj 174 dx) ∈ ι) : Spec 1 84 [.ref x, v_layout] [(dx, emptyDict)] ι (InitR dx (fun fs => fs = [(s_last, .none), (s_layout, v_layout)])) := by
  refine' Spec.intro (k := 0) (loc := [(s_layout, v_layout), (s_self, .ref x)]) hd.z84 hd.z83 ?ho ?hob ?hco' ?hcd ?hbind ?hloc ?hco ?hgen ?hk ?hcell ?hb
  walk_at "M.fn"
  intro c ρ O
  have hι : Sub ι ι := Sub.refl
  have hd := DObj.empty
  walk_at "M.set"
  refine W.asgAttr ?_
  refine W.cnone ?_
  walk_at "M.w"
  refine W.setA (μ₁ := []) O (List.mem_append.mpr (.inr hx)) (by assumption) (FieldF.set (fF .Cursor_last)) (Nat.le_of_ble_eq_true (by kernel_rfl!)) fun _ _ => ?_
  refine W.execs_nil ?_
  refine Ends.none (fl := Flow.next) (μ := [(dx, _)]) (ρ := ρ) rfl hι ?_
  exact ⟨rfl, _, _, rfl, by assumption, rfl⟩
theorem init_Var_n {x dx : Addr} {v_name : Value} {ι : Led} (hx : (x, instObj 236 dx) ∈ ι) : Spec 2 226 [.ref x, v_name] [(dx, emptyDict)] ι (InitR dx (fun fs => ∃ u, fs = [(s_uses, u), (s_name, v_name), (s_place, .none)])) := by
  refine' Spec.intro (k := 1) (loc := [(s_place, .none), (s_name, v_name), (s_self, .ref x)]) hd.z226 hd.z225 ?ho ?hob ?hco' ?hcd ?hbind ?hloc ?hco ?hgen ?hk ?hcell ?hb
  walk_at "M.fnD"
  (case hbind => (intro P s XX; exact bindsD XX (by kernel_rfl : _ = some (hd.z219 P)) rfl rfl (by kernel_rfl!)))
  intro c ρ O
  walk_at "M.node"
  refine W.callS (init_Node hx (fF .Var_place)) O (by decide) fun r μ' ι' hι R => ?_
  refine oAEEAA R ?_; clear R; intro zo0 o fs zo3 d zo5; obtain rfl := zo0; obtain rfl := zo3; obtain rfl := zo5
  replace hx := hι _ hx
  walk_at "M.set"
  refine W.asgAttr (W.list (W.args0 (W.list_ (by walk_at "M.sz") fun u ι₂ hs hl => ?_)))
  replace hx := hs _ hx
  replace hι := Sub.trans hι hs
  walk_at "M.w"
  refine W.setA (μ₁ := []) O (List.mem_append.mpr (.inr hx)) (by assumption) (FieldF.set (fF .Var_uses)) (Nat.le_of_ble_eq_true (by kernel_rfl!)) fun _ _ => ?_
  refine W.execs_nil ?_
  refine Ends.none (fl := Flow.next) (μ := [(dx, _)]) (ρ := ρ) rfl hι ?_
  exact ⟨rfl, _, _, rfl, by assumption, ⟨u, rfl⟩⟩
theorem W.new_Var_n {c : Cx} {sc : Scope} {m : Lc} {μ ι : Led} {k : Nat} {v_name : Value} {Q : Po Value} (O : c.Ok sc k) (hk : 4 ≤ k) (q : ∀ v ι' u, Sub ι ι' → InstF ι' v 236 [(s_uses, u), (s_name, v_name), (s_place, .none)] → Q v m μ ι') : c.W (PySem.call (.ref 236) [v_name]) Q m μ ι :=
  W.new O (nF .Var) (j := 2) (Nat.le_trans (by decide) hk) (fun x dx => init_Var_n (.head _)) (fun v ι' fs hι hp I => by obtain ⟨l, rfl⟩ := hp; exact q v ι' l hι I)
theorem init_Con_n {x dx : Addr} {v_name : Value} {ι : Led} (hx : (x, instObj 263 dx) ∈ ι) : Spec 2 253 [.ref x, v_name] [(dx, emptyDict)] ι (InitR dx (fun fs => ∃ u, fs = [(s_uses, u), (s_name, v_name), (s_place, .none)])) := by
  refine' Spec.intro (k := 1) (loc := [(s_place, .none), (s_name, v_name), (s_self, .ref x)]) hd.z253 hd.z252 ?ho ?hob ?hco' ?hcd ?hbind ?hloc ?hco ?hgen ?hk ?hcell ?hb
  walk_at "M.fnD"
  (case hbind => (intro P s XX; exact bindsD XX (by kernel_rfl : _ = some (hd.z246 P)) rfl rfl (by kernel_rfl!)))
  intro c ρ O
  walk_at "M.node"
  refine W.callS (init_Node hx (fF .Con_place)) O (by decide) fun r μ' ι' hι R => ?_
  refine oAEEAA R ?_; clear R; intro zo0 o fs zo3 d zo5; obtain rfl := zo0; obtain rfl := zo3; obtain rfl := zo5
  replace hx := hι _ hx
  walk_at "M.set"
  refine W.asgAttr (W.list (W.args0 (W.list_ (by walk_at "M.sz") fun u ι₂ hs hl => ?_)))
  replace hx := hs _ hx
  replace hι := Sub.trans hι hs
  walk_at "M.w"
  refine W.setA (μ₁ := []) O (List.mem_append.mpr (.inr hx)) (by assumption) (FieldF.set (fF .Con_uses)) (Nat.le_of_ble_eq_true (by kernel_rfl!)) fun _ _ => ?_
  refine W.execs_nil ?_
  refine Ends.none (fl := Flow.next) (μ := [(dx, _)]) (ρ := ρ) rfl hι ?_
  exact ⟨rfl, _, _, rfl, by assumption, ⟨u, rfl⟩⟩
theorem W.new_Con_n {c : Cx} {sc : Scope} {m : Lc} {μ ι : Led} {k : Nat} {v_name : Value} {Q : Po Value} (O : c.Ok sc k) (hk : 4 ≤ k) (q : ∀ v ι' u, Sub ι ι' → InstF ι' v 263 [(s_uses, u), (s_name, v_name), (s_place, .none)] → Q v m μ ι') : c.W (PySem.call (.ref 263) [v_name]) Q m μ ι :=
  W.new O (nF .Con) (j := 2) (Nat.le_trans (by decide) hk) (fun x dx => init_Con_n (.head _)) (fun v ι' fs hι hp I => by obtain ⟨l, rfl⟩ := hp; exact q v ι' l hι I)
theorem init_Lit_n {x dx : Addr} {v_kind v_value : Value} {ι : Led} (hx : (x, instObj 290 dx) ∈ ι) : Spec 2 280 [.ref x, v_kind, v_value] [(dx, emptyDict)] ι (InitR dx (fun fs => fs = [(s_value, v_value), (s_kind, v_kind), (s_place, .none)])) := by
  refine' Spec.intro (k := 1) (loc := [(s_place, .none), (s_value, v_value), (s_kind, v_kind), (s_self, .ref x)]) hd.z280 hd.z279 ?ho ?hob ?hco' ?hcd ?hbind ?hloc ?hco ?hgen ?hk ?hcell ?hb
  walk_at "M.fnD"
  (case hbind => (intro P s XX; exact bindsD XX (by kernel_rfl : _ = some (hd.z273 P)) rfl rfl (by kernel_rfl!)))
  intro c ρ O
  walk_at "M.node"
  refine W.callS (init_Node hx (fF .Lit_place)) O (by decide) fun r μ' ι' hι R => ?_
  refine oAEEAA R ?_; clear R; intro zo0 o fs zo3 d zo5; obtain rfl := zo0; obtain rfl := zo3; obtain rfl := zo5
  replace hx := hι _ hx
  walk_at "M.set"
  walk_at "M.set"
  refine W.execs_nil ?_
  refine Ends.none (fl := Flow.next) (μ := [(dx, _)]) (ρ := ρ) rfl hι ?_
  exact ⟨rfl, _, _, rfl, by assumption, rfl⟩
theorem W.new_Lit_n {c : Cx} {sc : Scope} {m : Lc} {μ ι : Led} {k : Nat} {v_kind v_value : Value} {Q : Po Value} (O : c.Ok sc k) (hk : 4 ≤ k) (q : ∀ v ι', Sub ι ι' → InstF ι' v 290 [(s_value, v_value), (s_kind, v_kind), (s_place, .none)] → Q v m μ ι') : c.W (PySem.call (.ref 290) [v_kind, v_value]) Q m μ ι :=
  W.new O (nF .Lit) (j := 2) (Nat.le_trans (by decide) hk) (fun x dx => init_Lit_n (.head _)) (fun v ι' fs hι hp I => by subst hp; exact q v ι' hι I)
theorem init_App_n {x dx : Addr} {v_fun v_arg : Value} {ι : Led} (hx : (x, instObj 317 dx) ∈ ι) : Spec 2 307 [.ref x, v_fun, v_arg] [(dx, emptyDict)] ι (InitR dx (fun fs => fs = [(s_arg, v_arg), (s_fun, v_fun), (s_place, .none)])) := by
  refine' Spec.intro (k := 1) (loc := [(s_place, .none), (s_arg, v_arg), (s_fun, v_fun), (s_self, .ref x)]) hd.z307 hd.z306 ?ho ?hob ?hco' ?hcd ?hbind ?hloc ?hco ?hgen ?hk ?hcell ?hb
  walk_at "M.fnD"
  (case hbind => (intro P s XX; exact bindsD XX (by kernel_rfl : _ = some (hd.z300 P)) rfl rfl (by kernel_rfl!)))
  intro c ρ O
  walk_at "M.node"
  refine W.callS (init_Node hx (fF .App_place)) O (by decide) fun r μ' ι' hι R => ?_
  refine oAEEAA R ?_; clear R; intro zo0 o fs zo3 d zo5; obtain rfl := zo0; obtain rfl := zo3; obtain rfl := zo5
  replace hx := hι _ hx
  walk_at "M.set"
  walk_at "M.set"
  refine W.execs_nil ?_
  refine Ends.none (fl := Flow.next) (μ := [(dx, _)]) (ρ := ρ) rfl hι ?_
  exact ⟨rfl, _, _, rfl, by assumption, rfl⟩
theorem W.new_App_n {c : Cx} {sc : Scope} {m : Lc} {μ ι : Led} {k : Nat} {v_fun v_arg : Value} {Q : Po Value} (O : c.Ok sc k) (hk : 4 ≤ k) (q : ∀ v ι', Sub ι ι' → InstF ι' v 317 [(s_arg, v_arg), (s_fun, v_fun), (s_place, .none)] → Q v m μ ι') : c.W (PySem.call (.ref 317) [v_fun, v_arg]) Q m μ ι :=
  W.new O (nF .App) (j := 2) (Nat.le_trans (by decide) hk) (fun x dx => init_App_n (.head _)) (fun v ι' fs hι hp I => by subst hp; exact q v ι' hι I)
theorem init_Op_n {x dx : Addr} {v_name v_is_con : Value} {ι : Led} (hx : (x, instObj 344 dx) ∈ ι) : Spec 2 334 [.ref x, v_name, v_is_con] [(dx, emptyDict)] ι (InitR dx (fun fs => fs = [(s_is_con, v_is_con), (s_name, v_name), (s_place, .none)])) := by
  refine' Spec.intro (k := 1) (loc := [(s_place, .none), (s_is_con, v_is_con), (s_name, v_name), (s_self, .ref x)]) hd.z334 hd.z333 ?ho ?hob ?hco' ?hcd ?hbind ?hloc ?hco ?hgen ?hk ?hcell ?hb
  walk_at "M.fnD"
  (case hbind => (intro P s XX; exact bindsD XX (by kernel_rfl : _ = some (hd.z327 P)) rfl rfl (by kernel_rfl!)))
  intro c ρ O
  walk_at "M.node"
  refine W.callS (init_Node hx (fF .Op_place)) O (by decide) fun r μ' ι' hι R => ?_
  refine oAEEAA R ?_; clear R; intro zo0 o fs zo3 d zo5; obtain rfl := zo0; obtain rfl := zo3; obtain rfl := zo5
  replace hx := hι _ hx
  walk_at "M.set"
  walk_at "M.set"
  refine W.execs_nil ?_
  refine Ends.none (fl := Flow.next) (μ := [(dx, _)]) (ρ := ρ) rfl hι ?_
  exact ⟨rfl, _, _, rfl, by assumption, rfl⟩
theorem W.new_Op_n {c : Cx} {sc : Scope} {m : Lc} {μ ι : Led} {k : Nat} {v_name v_is_con : Value} {Q : Po Value} (O : c.Ok sc k) (hk : 4 ≤ k) (q : ∀ v ι', Sub ι ι' → InstF ι' v 344 [(s_is_con, v_is_con), (s_name, v_name), (s_place, .none)] → Q v m μ ι') : c.W (PySem.call (.ref 344) [v_name, v_is_con]) Q m μ ι :=
  W.new O (nF .Op) (j := 2) (Nat.le_trans (by decide) hk) (fun x dx => init_Op_n (.head _)) (fun v ι' fs hι hp I => by subst hp; exact q v ι' hι I)
theorem init_Op_p {x dx : Addr} {v_name v_is_con v_place : Value} {ι : Led} (hx : (x, instObj 344 dx) ∈ ι) : Spec 2 334 [.ref x, v_name, v_is_con, v_place] [(dx, emptyDict)] ι (InitR dx (fun fs => fs = [(s_is_con, v_is_con), (s_name, v_name), (s_place, v_place)])) := by
  refine' Spec.intro (k := 1) (loc := [(s_place, v_place), (s_is_con, v_is_con), (s_name, v_name), (s_self, .ref x)]) hd.z334 hd.z333 ?ho ?hob ?hco' ?hcd ?hbind ?hloc ?hco ?hgen ?hk ?hcell ?hb
  walk_at "M.fnD"
  (case hbind => (intro P s XX; exact bindsD XX (by kernel_rfl : _ = some (hd.z327 P)) rfl rfl (by kernel_rfl!)))
  intro c ρ O
  walk_at "M.node"
  refine W.callS (init_Node hx (fF .Op_place)) O (by decide) fun r μ' ι' hι R => ?_
  refine oAEEAA R ?_; clear R; intro zo0 o fs zo3 d zo5; obtain rfl := zo0; obtain rfl := zo3; obtain rfl := zo5
  replace hx := hι _ hx
  walk_at "M.set"
  walk_at "M.set"
  refine W.execs_nil ?_
  refine Ends.none (fl := Flow.next) (μ := [(dx, _)]) (ρ := ρ) rfl hι ?_
  exact ⟨rfl, _, _, rfl, by assumption, rfl⟩
theorem W.new_Op_p {c : Cx} {sc : Scope} {m : Lc} {μ ι : Led} {k : Nat} {v_name v_is_con v_place : Value} {Q : Po Value} (O : c.Ok sc k) (hk : 4 ≤ k) (q : ∀ v ι', Sub ι ι' → InstF ι' v 344 [(s_is_con, v_is_con), (s_name, v_name), (s_place, v_place)] → Q v m μ ι') : c.W (PySem.call (.ref 344) [v_name, v_is_con, v_place]) Q m μ ι :=
  W.new O (nF .Op) (j := 2) (Nat.le_trans (by decide) hk) (fun x dx => init_Op_p (.head _)) (fun v ι' fs hι hp I => by subst hp; exact q v ι' hι I)
theorem init_Infix_n {x dx : Addr} {v_items : Value} {ι : Led} (hx : (x, instObj 371 dx) ∈ ι) : Spec 2 361 [.ref x, v_items] [(dx, emptyDict)] ι (InitR dx (fun fs => fs = [(s_items, v_items), (s_place, .none)])) := by
  refine' Spec.intro (k := 1) (loc := [(s_place, .none), (s_items, v_items), (s_self, .ref x)]) hd.z361 hd.z360 ?ho ?hob ?hco' ?hcd ?hbind ?hloc ?hco ?hgen ?hk ?hcell ?hb
  walk_at "M.fnD"
  (case hbind => (intro P s XX; exact bindsD XX (by kernel_rfl : _ = some (hd.z354 P)) rfl rfl (by kernel_rfl!)))
  intro c ρ O
  walk_at "M.node"
  refine W.callS (init_Node hx (fF .Infix_place)) O (by decide) fun r μ' ι' hι R => ?_
  refine oAEEAA R ?_; clear R; intro zo0 o fs zo3 d zo5; obtain rfl := zo0; obtain rfl := zo3; obtain rfl := zo5
  replace hx := hι _ hx
  walk_at "M.set"
  refine W.execs_nil ?_
  refine Ends.none (fl := Flow.next) (μ := [(dx, _)]) (ρ := ρ) rfl hι ?_
  exact ⟨rfl, _, _, rfl, by assumption, rfl⟩
theorem W.new_Infix_n {c : Cx} {sc : Scope} {m : Lc} {μ ι : Led} {k : Nat} {v_items : Value} {Q : Po Value} (O : c.Ok sc k) (hk : 4 ≤ k) (q : ∀ v ι', Sub ι ι' → InstF ι' v 371 [(s_items, v_items), (s_place, .none)] → Q v m μ ι') : c.W (PySem.call (.ref 371) [v_items]) Q m μ ι :=
  W.new O (nF .Infix) (j := 2) (Nat.le_trans (by decide) hk) (fun x dx => init_Infix_n (.head _)) (fun v ι' fs hι hp I => by subst hp; exact q v ι' hι I)
theorem init_Tuple_n {x dx : Addr} {v_items : Value} {ι : Led} (hx : (x, instObj 398 dx) ∈ ι) : Spec 2 388 [.ref x, v_items] [(dx, emptyDict)] ι (InitR dx (fun fs => fs = [(s_items, v_items), (s_place, .none)])) := by
  refine' Spec.intro (k := 1) (loc := [(s_place, .none), (s_items, v_items), (s_self, .ref x)]) hd.z388 hd.z387 ?ho ?hob ?hco' ?hcd ?hbind ?hloc ?hco ?hgen ?hk ?hcell ?hb
  walk_at "M.fnD"
  (case hbind => (intro P s XX; exact bindsD XX (by kernel_rfl : _ = some (hd.z381 P)) rfl rfl (by kernel_rfl!)))
  intro c ρ O
  walk_at "M.node"
  refine W.callS (init_Node hx (fF .Tuple_place)) O (by decide) fun r μ' ι' hι R => ?_
  refine oAEEAA R ?_; clear R; intro zo0 o fs zo3 d zo5; obtain rfl := zo0; obtain rfl := zo3; obtain rfl := zo5
  replace hx := hι _ hx
  walk_at "M.set"
  refine W.execs_nil ?_
  refine Ends.none (fl := Flow.next) (μ := [(dx, _)]) (ρ := ρ) rfl hι ?_
  exact ⟨rfl, _, _, rfl, by assumption, rfl⟩
theorem W.new_Tuple_n {c : Cx} {sc : Scope} {m : Lc} {μ ι : Led} {k : Nat} {v_items : Value} {Q : Po Value} (O : c.Ok sc k) (hk : 4 ≤ k) (q : ∀ v ι', Sub ι ι' → InstF ι' v 398 [(s_items, v_items), (s_place, .none)] → Q v m μ ι') : c.W (PySem.call (.ref 398) [v_items]) Q m μ ι :=
  W.new O (nF .Tuple) (j := 2) (Nat.le_trans (by decide) hk) (fun x dx => init_Tuple_n (.head _)) (fun v ι' fs hι hp I => by subst hp; exact q v ι' hι I)
theorem init_ListOf_n {x dx : Addr} {v_items : Value} {ι : Led} (hx : (x, instObj 425 dx) ∈ ι) : Spec 2 415 [.ref x, v_items] [(dx, emptyDict)] ι (InitR dx (fun fs => fs = [(s_items, v_items), (s_place, .none)])) := by
  refine' Spec.intro (k := 1) (loc := [(s_place, .none), (s_items, v_items), (s_self, .ref x)]) hd.z415 hd.z414 ?ho ?hob ?hco' ?hcd ?hbind ?hloc ?hco ?hgen ?hk ?hcell ?hb
  walk_at "M.fnD"
  (case hbind => (intro P s XX; exact bindsD XX (by kernel_rfl : _ = some (hd.z408 P)) rfl rfl (by kernel_rfl!)))
  intro c ρ O
  walk_at "M.node"
  refine W.callS (init_Node hx (fF .ListOf_place)) O (by decide) fun r μ' ι' hι R => ?_
  refine oAEEAA R ?_; clear R; intro zo0 o fs zo3 d zo5; obtain rfl := zo0; obtain rfl := zo3; obtain rfl := zo5
  replace hx := hι _ hx
  walk_at "M.set"
  refine W.execs_nil ?_
  refine Ends.none (fl := Flow.next) (μ := [(dx, _)]) (ρ := ρ) rfl hι ?_
  exact ⟨rfl, _, _, rfl, by assumption, rfl⟩
theorem W.new_ListOf_n {c : Cx} {sc : Scope} {m : Lc} {μ ι : Led} {k : Nat} {v_items : Value} {Q : Po Value} (O : c.Ok sc k) (hk : 4 ≤ k) (q : ∀ v ι', Sub ι ι' → InstF ι' v 425 [(s_items, v_items), (s_place, .none)] → Q v m μ ι') : c.W (PySem.call (.ref 425) [v_items]) Q m μ ι :=
  W.new O (nF .ListOf) (j := 2) (Nat.le_trans (by decide) hk) (fun x dx => init_ListOf_n (.head _)) (fun v ι' fs hι hp I => by subst hp; exact q v ι' hι I)
theorem init_Paren_n {x dx : Addr} {v_expr : Value} {ι : Led} (hx : (x, instObj 452 dx) ∈ ι) : Spec 2 442 [.ref x, v_expr] [(dx, emptyDict)] ι (InitR dx (fun fs => fs = [(s_expr, v_expr), (s_place, .none)])) := by
  refine' Spec.intro (k := 1) (loc := [(s_place, .none), (s_expr, v_expr), (s_self, .ref x)]) hd.z442 hd.z441 ?ho ?hob ?hco' ?hcd ?hbind ?hloc ?hco ?hgen ?hk ?hcell ?hb
  walk_at "M.fnD"
  (case hbind => (intro P s XX; exact bindsD XX (by kernel_rfl : _ = some (hd.z435 P)) rfl rfl (by kernel_rfl!)))
  intro c ρ O
  walk_at "M.node"
  refine W.callS (init_Node hx (fF .Paren_place)) O (by decide) fun r μ' ι' hι R => ?_
  refine oAEEAA R ?_; clear R; intro zo0 o fs zo3 d zo5; obtain rfl := zo0; obtain rfl := zo3; obtain rfl := zo5
  replace hx := hι _ hx
  walk_at "M.set"
  refine W.execs_nil ?_
  refine Ends.none (fl := Flow.next) (μ := [(dx, _)]) (ρ := ρ) rfl hι ?_
  exact ⟨rfl, _, _, rfl, by assumption, rfl⟩
theorem W.new_Paren_n {c : Cx} {sc : Scope} {m : Lc} {μ ι : Led} {k : Nat} {v_expr : Value} {Q : Po Value} (O : c.Ok sc k) (hk : 4 ≤ k) (q : ∀ v ι', Sub ι ι' → InstF ι' v 452 [(s_expr, v_expr), (s_place, .none)] → Q v m μ ι') : c.W (PySem.call (.ref 452) [v_expr]) Q m μ ι :=
  W.new O (nF .Paren) (j := 2) (Nat.le_trans (by decide) hk) (fun x dx => init_Paren_n (.head _)) (fun v ι' fs hι hp I => by subst hp; exact q v ι' hι I)
theorem init_PVar_n {x dx : Addr} {v_name : Value} {ι : Led} (hx : (x, instObj 479 dx) ∈ ι) : Spec 2 469 [.ref x, v_name] [(dx, emptyDict)] ι (InitR dx (fun fs => fs = [(s_name, v_name), (s_place, .none)])) := by
  refine' Spec.intro (k := 1) (loc := [(s_place, .none), (s_name, v_name), (s_self, .ref x)]) hd.z469 hd.z468 ?ho ?hob ?hco' ?hcd ?hbind ?hloc ?hco ?hgen ?hk ?hcell ?hb
  walk_at "M.fnD"
  (case hbind => (intro P s XX; exact bindsD XX (by kernel_rfl : _ = some (hd.z462 P)) rfl rfl (by kernel_rfl!)))
  intro c ρ O
  walk_at "M.node"
  refine W.callS (init_Node hx (fF .PVar_place)) O (by decide) fun r μ' ι' hι R => ?_
  refine oAEEAA R ?_; clear R; intro zo0 o fs zo3 d zo5; obtain rfl := zo0; obtain rfl := zo3; obtain rfl := zo5
  replace hx := hι _ hx
  walk_at "M.set"
  refine W.execs_nil ?_
  refine Ends.none (fl := Flow.next) (μ := [(dx, _)]) (ρ := ρ) rfl hι ?_
  exact ⟨rfl, _, _, rfl, by assumption, rfl⟩
theorem W.new_PVar_n {c : Cx} {sc : Scope} {m : Lc} {μ ι : Led} {k : Nat} {v_name : Value} {Q : Po Value} (O : c.Ok sc k) (hk : 4 ≤ k) (q : ∀ v ι', Sub ι ι' → InstF ι' v 479 [(s_name, v_name), (s_place, .none)] → Q v m μ ι') : c.W (PySem.call (.ref 479) [v_name]) Q m μ ι :=
  W.new O (nF .PVar) (j := 2) (Nat.le_trans (by decide) hk) (fun x dx => init_PVar_n (.head _)) (fun v ι' fs hι hp I => by subst hp; exact q v ι' hι I)
theorem init_PVar_p {x dx : Addr} {v_name v_place : Value} {ι : Led} (hx : (x, instObj 479 dx) ∈ ι) : Spec 2 469 [.ref x, v_name, v_place] [(dx, emptyDict)] ι (InitR dx (fun fs => fs = [(s_name, v_name), (s_place, v_place)])) := by
  refine' Spec.intro (k := 1) (loc := [(s_place, v_place), (s_name, v_name), (s_self, .ref x)]) hd.z469 hd.z468 ?ho ?hob ?hco' ?hcd ?hbind ?hloc ?hco ?hgen ?hk ?hcell ?hb
  walk_at "M.fnD"
  (case hbind => (intro P s XX; exact bindsD XX (by kernel_rfl : _ = some (hd.z462 P)) rfl rfl (by kernel_rfl!)))
  intro c ρ O
  walk_at "M.node"
  refine W.callS (init_Node hx (fF .PVar_place)) O (by decide) fun r μ' ι' hι R => ?_
  refine oAEEAA R ?_; clear R; intro zo0 o fs zo3 d zo5; obtain rfl := zo0; obtain rfl := zo3; obtain rfl := zo5
  replace hx := hι _ hx
  walk_at "M.set"
  refine W.execs_nil ?_
  refine Ends.none (fl := Flow.next) (μ := [(dx, _)]) (ρ := ρ) rfl hι ?_
  exact ⟨rfl, _, _, rfl, by assumption, rfl⟩
theorem W.new_PVar_p {c : Cx} {sc : Scope} {m : Lc} {μ ι : Led} {k : Nat} {v_name v_place : Value} {Q : Po Value} (O : c.Ok sc k) (hk : 4 ≤ k) (q : ∀ v ι', Sub ι ι' → InstF ι' v 479 [(s_name, v_name), (s_place, v_place)] → Q v m μ ι') : c.W (PySem.call (.ref 479) [v_name, v_place]) Q m μ ι :=
  W.new O (nF .PVar) (j := 2) (Nat.le_trans (by decide) hk) (fun x dx => init_PVar_p (.head _)) (fun v ι' fs hι hp I => by subst hp; exact q v ι' hι I)
theorem init_PWild_n {x dx : Addr} {ι : Led} (hx : (x, instObj 506 dx) ∈ ι) : Spec 2 496 [.ref x] [(dx, emptyDict)] ι (InitR dx (fun fs => fs = [(s_place, .none)])) := by
  refine' Spec.intro (k := 1) (loc := [(s_place, .none), (s_self, .ref x)]) hd.z496 hd.z495 ?ho ?hob ?hco' ?hcd ?hbind ?hloc ?hco ?hgen ?hk ?hcell ?hb
  walk_at "M.fnD"
  (case hbind => (intro P s XX; exact bindsD XX (by kernel_rfl : _ = some (hd.z489 P)) rfl rfl (by kernel_rfl!)))
  intro c ρ O
  walk_at "M.node"
  refine W.callS (init_Node hx (fF .PWild_place)) O (by decide) fun r μ' ι' hι R => ?_
  refine oAEEAA R ?_; clear R; intro zo0 o fs zo3 d zo5; obtain rfl := zo0; obtain rfl := zo3; obtain rfl := zo5
  replace hx := hι _ hx
  refine W.execs_nil ?_
  refine Ends.none (fl := Flow.next) (μ := [(dx, _)]) (ρ := ρ) rfl hι ?_
  exact ⟨rfl, _, _, rfl, by assumption, rfl⟩
theorem W.new_PWild_n {c : Cx} {sc : Scope} {m : Lc} {μ ι : Led} {k : Nat} {Q : Po Value} (O : c.Ok sc k) (hk : 4 ≤ k) (q : ∀ v ι', Sub ι ι' → InstF ι' v 506 [(s_place, .none)] → Q v m μ ι') : c.W (PySem.call (.ref 506) []) Q m μ ι :=
  W.new O (nF .PWild) (j := 2) (Nat.le_trans (by decide) hk) (fun x dx => init_PWild_n (.head _)) (fun v ι' fs hι hp I => by subst hp; exact q v ι' hι I)
theorem init_PWild_p {x dx : Addr} {v_place : Value} {ι : Led} (hx : (x, instObj 506 dx) ∈ ι) : Spec 2 496 [.ref x, v_place] [(dx, emptyDict)] ι (InitR dx (fun fs => fs = [(s_place, v_place)])) := by
  refine' Spec.intro (k := 1) (loc := [(s_place, v_place), (s_self, .ref x)]) hd.z496 hd.z495 ?ho ?hob ?hco' ?hcd ?hbind ?hloc ?hco ?hgen ?hk ?hcell ?hb
  walk_at "M.fnD"
  (case hbind => (intro P s XX; exact bindsD XX (by kernel_rfl : _ = some (hd.z489 P)) rfl rfl (by kernel_rfl!)))
  intro c ρ O
  walk_at "M.node"
  refine W.callS (init_Node hx (fF .PWild_place)) O (by decide) fun r μ' ι' hι R => ?_
  refine oAEEAA R ?_; clear R; intro zo0 o fs zo3 d zo5; obtain rfl := zo0; obtain rfl := zo3; obtain rfl := zo5
  replace hx := hι _ hx
  refine W.execs_nil ?_
  refine Ends.none (fl := Flow.next) (μ := [(dx, _)]) (ρ := ρ) rfl hι ?_
  exact ⟨rfl, _, _, rfl, by assumption, rfl⟩
theorem W.new_PWild_p {c : Cx} {sc : Scope} {m : Lc} {μ ι : Led} {k : Nat} {v_place : Value} {Q : Po Value} (O : c.Ok sc k) (hk : 4 ≤ k) (q : ∀ v ι', Sub ι ι' → InstF ι' v 506 [(s_place, v_place)] → Q v m μ ι') : c.W (PySem.call (.ref 506) [v_place]) Q m μ ι :=
  W.new O (nF .PWild) (j := 2) (Nat.le_trans (by decide) hk) (fun x dx => init_PWild_p (.head _)) (fun v ι' fs hι hp I => by subst hp; exact q v ι' hι I)
theorem init_PLit_p {x dx : Addr} {v_kind v_value v_place : Value} {ι : Led} (hx : (x, instObj 533 dx) ∈ ι) : Spec 2 523 [.ref x, v_kind, v_value, v_place] [(dx, emptyDict)] ι (InitR dx (fun fs => fs = [(s_value, v_value), (s_kind, v_kind), (s_place, v_place)])) := by
  refine' Spec.intro (k := 1) (loc := [(s_place, v_place), (s_value, v_value), (s_kind, v_kind), (s_self, .ref x)]) hd.z523 hd.z522 ?ho ?hob ?hco' ?hcd ?hbind ?hloc ?hco ?hgen ?hk ?hcell ?hb
  walk_at "M.fnD"
  (case hbind => (intro P s XX; exact bindsD XX (by kernel_rfl : _ = some (hd.z516 P)) rfl rfl (by kernel_rfl!)))
  intro c ρ O
  walk_at "M.node"
  refine W.callS (init_Node hx (fF .PLit_place)) O (by decide) fun r μ' ι' hι R => ?_
  refine oAEEAA R ?_; clear R; intro zo0 o fs zo3 d zo5; obtain rfl := zo0; obtain rfl := zo3; obtain rfl := zo5
  replace hx := hι _ hx
  walk_at "M.set"
  walk_at "M.set"
  refine W.execs_nil ?_
  refine Ends.none (fl := Flow.next) (μ := [(dx, _)]) (ρ := ρ) rfl hι ?_
  exact ⟨rfl, _, _, rfl, by assumption, rfl⟩
theorem W.new_PLit_p {c : Cx} {sc : Scope} {m : Lc} {μ ι : Led} {k : Nat} {v_kind v_value v_place : Value} {Q : Po Value} (O : c.Ok sc k) (hk : 4 ≤ k) (q : ∀ v ι', Sub ι ι' → InstF ι' v 533 [(s_value, v_value), (s_kind, v_kind), (s_place, v_place)] → Q v m μ ι') : c.W (PySem.call (.ref 533) [v_kind, v_value, v_place]) Q m μ ι :=
  W.new O (nF .PLit) (j := 2) (Nat.le_trans (by decide) hk) (fun x dx => init_PLit_p (.head _)) (fun v ι' fs hι hp I => by subst hp; exact q v ι' hι I)
theorem init_PCon_p {x dx : Addr} {v_name v_args v_place : Value} {ι : Led} (hx : (x, instObj 560 dx) ∈ ι) : Spec 2 550 [.ref x, v_name, v_args, v_place] [(dx, emptyDict)] ι (InitR dx (fun fs => fs = [(s_args, v_args), (s_name, v_name), (s_place, v_place)])) := by
  refine' Spec.intro (k := 1) (loc := [(s_place, v_place), (s_args, v_args), (s_name, v_name), (s_self, .ref x)]) hd.z550 hd.z549 ?ho ?hob ?hco' ?hcd ?hbind ?hloc ?hco ?hgen ?hk ?hcell ?hb
  walk_at "M.fnD"
  (case hbind => (intro P s XX; exact bindsD XX (by kernel_rfl : _ = some (hd.z543 P)) rfl rfl (by kernel_rfl!)))
  intro c ρ O
  walk_at "M.node"
  refine W.callS (init_Node hx (fF .PCon_place)) O (by decide) fun r μ' ι' hι R => ?_
  refine oAEEAA R ?_; clear R; intro zo0 o fs zo3 d zo5; obtain rfl := zo0; obtain rfl := zo3; obtain rfl := zo5
  replace hx := hι _ hx
  walk_at "M.set"
  walk_at "M.set"
  refine W.execs_nil ?_
  refine Ends.none (fl := Flow.next) (μ := [(dx, _)]) (ρ := ρ) rfl hι ?_
  exact ⟨rfl, _, _, rfl, by assumption, rfl⟩
theorem W.new_PCon_p {c : Cx} {sc : Scope} {m : Lc} {μ ι : Led} {k : Nat} {v_name v_args v_place : Value} {Q : Po Value} (O : c.Ok sc k) (hk : 4 ≤ k) (q : ∀ v ι', Sub ι ι' → InstF ι' v 560 [(s_args, v_args), (s_name, v_name), (s_place, v_place)] → Q v m μ ι') : c.W (PySem.call (.ref 560) [v_name, v_args, v_place]) Q m μ ι :=
  W.new O (nF .PCon) (j := 2) (Nat.le_trans (by decide) hk) (fun x dx => init_PCon_p (.head _)) (fun v ι' fs hι hp I => by subst hp; exact q v ι' hι I)
theorem init_PTuple_p {x dx : Addr} {v_items v_place : Value} {ι : Led} (hx : (x, instObj 587 dx) ∈ ι) : Spec 2 577 [.ref x, v_items, v_place] [(dx, emptyDict)] ι (InitR dx (fun fs => fs = [(s_items, v_items), (s_place, v_place)])) := by
  refine' Spec.intro (k := 1) (loc := [(s_place, v_place), (s_items, v_items), (s_self, .ref x)]) hd.z577 hd.z576 ?ho ?hob ?hco' ?hcd ?hbind ?hloc ?hco ?hgen ?hk ?hcell ?hb
  walk_at "M.fnD"
  (case hbind => (intro P s XX; exact bindsD XX (by kernel_rfl : _ = some (hd.z570 P)) rfl rfl (by kernel_rfl!)))
  intro c ρ O
  walk_at "M.node"
  refine W.callS (init_Node hx (fF .PTuple_place)) O (by decide) fun r μ' ι' hι R => ?_
  refine oAEEAA R ?_; clear R; intro zo0 o fs zo3 d zo5; obtain rfl := zo0; obtain rfl := zo3; obtain rfl := zo5
  replace hx := hι _ hx
  walk_at "M.set"
  refine W.execs_nil ?_
  refine Ends.none (fl := Flow.next) (μ := [(dx, _)]) (ρ := ρ) rfl hι ?_
  exact ⟨rfl, _, _, rfl, by assumption, rfl⟩
theorem W.new_PTuple_p {c : Cx} {sc : Scope} {m : Lc} {μ ι : Led} {k : Nat} {v_items v_place : Value} {Q : Po Value} (O : c.Ok sc k) (hk : 4 ≤ k) (q : ∀ v ι', Sub ι ι' → InstF ι' v 587 [(s_items, v_items), (s_place, v_place)] → Q v m μ ι') : c.W (PySem.call (.ref 587) [v_items, v_place]) Q m μ ι :=
  W.new O (nF .PTuple) (j := 2) (Nat.le_trans (by decide) hk) (fun x dx => init_PTuple_p (.head _)) (fun v ι' fs hι hp I => by subst hp; exact q v ι' hι I)
theorem init_PList_p {x dx : Addr} {v_items v_place : Value} {ι : Led} (hx : (x, instObj 614 dx) ∈ ι) : Spec 2 604 [.ref x, v_items, v_place] [(dx, emptyDict)] ι (InitR dx (fun fs => fs = [(s_items, v_items), (s_place, v_place)])) := by
  refine' Spec.intro (k := 1) (loc := [(s_place, v_place), (s_items, v_items), (s_self, .ref x)]) hd.z604 hd.z603 ?ho ?hob ?hco' ?hcd ?hbind ?hloc ?hco ?hgen ?hk ?hcell ?hb
  walk_at "M.fnD"
  (case hbind => (intro P s XX; exact bindsD XX (by kernel_rfl : _ = some (hd.z597 P)) rfl rfl (by kernel_rfl!)))
  intro c ρ O
  walk_at "M.node"
  refine W.callS (init_Node hx (fF .PList_place)) O (by decide) fun r μ' ι' hι R => ?_
  refine oAEEAA R ?_; clear R; intro zo0 o fs zo3 d zo5; obtain rfl := zo0; obtain rfl := zo3; obtain rfl := zo5
  replace hx := hι _ hx
  walk_at "M.set"
  refine W.execs_nil ?_
  refine Ends.none (fl := Flow.next) (μ := [(dx, _)]) (ρ := ρ) rfl hι ?_
  exact ⟨rfl, _, _, rfl, by assumption, rfl⟩
theorem W.new_PList_p {c : Cx} {sc : Scope} {m : Lc} {μ ι : Led} {k : Nat} {v_items v_place : Value} {Q : Po Value} (O : c.Ok sc k) (hk : 4 ≤ k) (q : ∀ v ι', Sub ι ι' → InstF ι' v 614 [(s_items, v_items), (s_place, v_place)] → Q v m μ ι') : c.W (PySem.call (.ref 614) [v_items, v_place]) Q m μ ι :=
  W.new O (nF .PList) (j := 2) (Nat.le_trans (by decide) hk) (fun x dx => init_PList_p (.head _)) (fun v ι' fs hι hp I => by subst hp; exact q v ι' hι I)
theorem init_PAs_n {x dx : Addr} {v_name v_pattern : Value} {ι : Led} (hx : (x, instObj 641 dx) ∈ ι) : Spec 2 631 [.ref x, v_name, v_pattern] [(dx, emptyDict)] ι (InitR dx (fun fs => fs = [(s_pattern, v_pattern), (s_name, v_name), (s_place, .none)])) := by
  refine' Spec.intro (k := 1) (loc := [(s_place, .none), (s_pattern, v_pattern), (s_name, v_name), (s_self, .ref x)]) hd.z631 hd.z630 ?ho ?hob ?hco' ?hcd ?hbind ?hloc ?hco ?hgen ?hk ?hcell ?hb
  walk_at "M.fnD"
  (case hbind => (intro P s XX; exact bindsD XX (by kernel_rfl : _ = some (hd.z624 P)) rfl rfl (by kernel_rfl!)))
  intro c ρ O
  walk_at "M.node"
  refine W.callS (init_Node hx (fF .PAs_place)) O (by decide) fun r μ' ι' hι R => ?_
  refine oAEEAA R ?_; clear R; intro zo0 o fs zo3 d zo5; obtain rfl := zo0; obtain rfl := zo3; obtain rfl := zo5
  replace hx := hι _ hx
  walk_at "M.set"
  walk_at "M.set"
  refine W.execs_nil ?_
  refine Ends.none (fl := Flow.next) (μ := [(dx, _)]) (ρ := ρ) rfl hι ?_
  exact ⟨rfl, _, _, rfl, by assumption, rfl⟩
theorem W.new_PAs_n {c : Cx} {sc : Scope} {m : Lc} {μ ι : Led} {k : Nat} {v_name v_pattern : Value} {Q : Po Value} (O : c.Ok sc k) (hk : 4 ≤ k) (q : ∀ v ι', Sub ι ι' → InstF ι' v 641 [(s_pattern, v_pattern), (s_name, v_name), (s_place, .none)] → Q v m μ ι') : c.W (PySem.call (.ref 641) [v_name, v_pattern]) Q m μ ι :=
  W.new O (nF .PAs) (j := 2) (Nat.le_trans (by decide) hk) (fun x dx => init_PAs_n (.head _)) (fun v ι' fs hι hp I => by subst hp; exact q v ι' hι I)
theorem init_PAs_p {x dx : Addr} {v_name v_pattern v_place : Value} {ι : Led} (hx : (x, instObj 641 dx) ∈ ι) : Spec 2 631 [.ref x, v_name, v_pattern, v_place] [(dx, emptyDict)] ι (InitR dx (fun fs => fs = [(s_pattern, v_pattern), (s_name, v_name), (s_place, v_place)])) := by
  refine' Spec.intro (k := 1) (loc := [(s_place, v_place), (s_pattern, v_pattern), (s_name, v_name), (s_self, .ref x)]) hd.z631 hd.z630 ?ho ?hob ?hco' ?hcd ?hbind ?hloc ?hco ?hgen ?hk ?hcell ?hb
  walk_at "M.fnD"
  (case hbind => (intro P s XX; exact bindsD XX (by kernel_rfl : _ = some (hd.z624 P)) rfl rfl (by kernel_rfl!)))
  intro c ρ O
  walk_at "M.node"
  refine W.callS (init_Node hx (fF .PAs_place)) O (by decide) fun r μ' ι' hι R => ?_
  refine oAEEAA R ?_; clear R; intro zo0 o fs zo3 d zo5; obtain rfl := zo0; obtain rfl := zo3; obtain rfl := zo5
  replace hx := hι _ hx
  walk_at "M.set"
  walk_at "M.set"
  refine W.execs_nil ?_
  refine Ends.none (fl := Flow.next) (μ := [(dx, _)]) (ρ := ρ) rfl hι ?_
  exact ⟨rfl, _, _, rfl, by assumption, rfl⟩
theorem W.new_PAs_p {c : Cx} {sc : Scope} {m : Lc} {μ ι : Led} {k : Nat} {v_name v_pattern v_place : Value} {Q : Po Value} (O : c.Ok sc k) (hk : 4 ≤ k) (q : ∀ v ι', Sub ι ι' → InstF ι' v 641 [(s_pattern, v_pattern), (s_name, v_name), (s_place, v_place)] → Q v m μ ι') : c.W (PySem.call (.ref 641) [v_name, v_pattern, v_place]) Q m μ ι :=
  W.new O (nF .PAs) (j := 2) (Nat.le_trans (by decide) hk) (fun x dx => init_PAs_p (.head _)) (fun v ι' fs hι hp I => by subst hp; exact q v ι' hι I)
theorem init_PLazy_n {x dx : Addr} {v_pattern : Value} {ι : Led} (hx : (x, instObj 668 dx) ∈ ι) : Spec 2 658 [.ref x, v_pattern] [(dx, emptyDict)] ι (InitR dx (fun fs => fs = [(s_pattern, v_pattern), (s_place, .none)])) := by
  refine' Spec.intro (k := 1) (loc := [(s_place, .none), (s_pattern, v_pattern), (s_self, .ref x)]) hd.z658 hd.z657 ?ho ?hob ?hco' ?hcd ?hbind ?hloc ?hco ?hgen ?hk ?hcell ?hb
  walk_at "M.fnD"
  (case hbind => (intro P s XX; exact bindsD XX (by kernel_rfl : _ = some (hd.z651 P)) rfl rfl (by kernel_rfl!)))
  intro c ρ O
  walk_at "M.node"
  refine W.callS (init_Node hx (fF .PLazy_place)) O (by decide) fun r μ' ι' hι R => ?_
  refine oAEEAA R ?_; clear R; intro zo0 o fs zo3 d zo5; obtain rfl := zo0; obtain rfl := zo3; obtain rfl := zo5
  replace hx := hι _ hx
  walk_at "M.set"
  refine W.execs_nil ?_
  refine Ends.none (fl := Flow.next) (μ := [(dx, _)]) (ρ := ρ) rfl hι ?_
  exact ⟨rfl, _, _, rfl, by assumption, rfl⟩
theorem W.new_PLazy_n {c : Cx} {sc : Scope} {m : Lc} {μ ι : Led} {k : Nat} {v_pattern : Value} {Q : Po Value} (O : c.Ok sc k) (hk : 4 ≤ k) (q : ∀ v ι', Sub ι ι' → InstF ι' v 668 [(s_pattern, v_pattern), (s_place, .none)] → Q v m μ ι') : c.W (PySem.call (.ref 668) [v_pattern]) Q m μ ι :=
  W.new O (nF .PLazy) (j := 2) (Nat.le_trans (by decide) hk) (fun x dx => init_PLazy_n (.head _)) (fun v ι' fs hι hp I => by subst hp; exact q v ι' hι I)
theorem init_PLazy_p {x dx : Addr} {v_pattern v_place : Value} {ι : Led} (hx : (x, instObj 668 dx) ∈ ι) : Spec 2 658 [.ref x, v_pattern, v_place] [(dx, emptyDict)] ι (InitR dx (fun fs => fs = [(s_pattern, v_pattern), (s_place, v_place)])) := by
  refine' Spec.intro (k := 1) (loc := [(s_place, v_place), (s_pattern, v_pattern), (s_self, .ref x)]) hd.z658 hd.z657 ?ho ?hob ?hco' ?hcd ?hbind ?hloc ?hco ?hgen ?hk ?hcell ?hb
  walk_at "M.fnD"
  (case hbind => (intro P s XX; exact bindsD XX (by kernel_rfl : _ = some (hd.z651 P)) rfl rfl (by kernel_rfl!)))
  intro c ρ O
  walk_at "M.node"
  refine W.callS (init_Node hx (fF .PLazy_place)) O (by decide) fun r μ' ι' hι R => ?_
  refine oAEEAA R ?_; clear R; intro zo0 o fs zo3 d zo5; obtain rfl := zo0; obtain rfl := zo3; obtain rfl := zo5
  replace hx := hι _ hx
  walk_at "M.set"
  refine W.execs_nil ?_
  refine Ends.none (fl := Flow.next) (μ := [(dx, _)]) (ρ := ρ) rfl hι ?_
  exact ⟨rfl, _, _, rfl, by assumption, rfl⟩
theorem W.new_PLazy_p {c : Cx} {sc : Scope} {m : Lc} {μ ι : Led} {k : Nat} {v_pattern v_place : Value} {Q : Po Value} (O : c.Ok sc k) (hk : 4 ≤ k) (q : ∀ v ι', Sub ι ι' → InstF ι' v 668 [(s_pattern, v_pattern), (s_place, v_place)] → Q v m μ ι') : c.W (PySem.call (.ref 668) [v_pattern, v_place]) Q m μ ι :=
  W.new O (nF .PLazy) (j := 2) (Nat.le_trans (by decide) hk) (fun x dx => init_PLazy_p (.head _)) (fun v ι' fs hι hp I => by subst hp; exact q v ι' hι I)
theorem init_PBang_n {x dx : Addr} {v_pattern : Value} {ι : Led} (hx : (x, instObj 695 dx) ∈ ι) : Spec 2 685 [.ref x, v_pattern] [(dx, emptyDict)] ι (InitR dx (fun fs => fs = [(s_pattern, v_pattern), (s_place, .none)])) := by
  refine' Spec.intro (k := 1) (loc := [(s_place, .none), (s_pattern, v_pattern), (s_self, .ref x)]) hd.z685 hd.z684 ?ho ?hob ?hco' ?hcd ?hbind ?hloc ?hco ?hgen ?hk ?hcell ?hb
  walk_at "M.fnD"
  (case hbind => (intro P s XX; exact bindsD XX (by kernel_rfl : _ = some (hd.z678 P)) rfl rfl (by kernel_rfl!)))
  intro c ρ O
  walk_at "M.node"
  refine W.callS (init_Node hx (fF .PBang_place)) O (by decide) fun r μ' ι' hι R => ?_
  refine oAEEAA R ?_; clear R; intro zo0 o fs zo3 d zo5; obtain rfl := zo0; obtain rfl := zo3; obtain rfl := zo5
  replace hx := hι _ hx
  walk_at "M.set"
  refine W.execs_nil ?_
  refine Ends.none (fl := Flow.next) (μ := [(dx, _)]) (ρ := ρ) rfl hι ?_
  exact ⟨rfl, _, _, rfl, by assumption, rfl⟩
theorem W.new_PBang_n {c : Cx} {sc : Scope} {m : Lc} {μ ι : Led} {k : Nat} {v_pattern : Value} {Q : Po Value} (O : c.Ok sc k) (hk : 4 ≤ k) (q : ∀ v ι', Sub ι ι' → InstF ι' v 695 [(s_pattern, v_pattern), (s_place, .none)] → Q v m μ ι') : c.W (PySem.call (.ref 695) [v_pattern]) Q m μ ι :=
  W.new O (nF .PBang) (j := 2) (Nat.le_trans (by decide) hk) (fun x dx => init_PBang_n (.head _)) (fun v ι' fs hι hp I => by subst hp; exact q v ι' hι I)
theorem init_PBang_p {x dx : Addr} {v_pattern v_place : Value} {ι : Led} (hx : (x, instObj 695 dx) ∈ ι) : Spec 2 685 [.ref x, v_pattern, v_place] [(dx, emptyDict)] ι (InitR dx (fun fs => fs = [(s_pattern, v_pattern), (s_place, v_place)])) := by
  refine' Spec.intro (k := 1) (loc := [(s_place, v_place), (s_pattern, v_pattern), (s_self, .ref x)]) hd.z685 hd.z684 ?ho ?hob ?hco' ?hcd ?hbind ?hloc ?hco ?hgen ?hk ?hcell ?hb
  walk_at "M.fnD"
  (case hbind => (intro P s XX; exact bindsD XX (by kernel_rfl : _ = some (hd.z678 P)) rfl rfl (by kernel_rfl!)))
  intro c ρ O
  walk_at "M.node"
  refine W.callS (init_Node hx (fF .PBang_place)) O (by decide) fun r μ' ι' hι R => ?_
  refine oAEEAA R ?_; clear R; intro zo0 o fs zo3 d zo5; obtain rfl := zo0; obtain rfl := zo3; obtain rfl := zo5
  replace hx := hι _ hx
  walk_at "M.set"
  refine W.execs_nil ?_
  refine Ends.none (fl := Flow.next) (μ := [(dx, _)]) (ρ := ρ) rfl hι ?_
  exact ⟨rfl, _, _, rfl, by assumption, rfl⟩
theorem W.new_PBang_p {c : Cx} {sc : Scope} {m : Lc} {μ ι : Led} {k : Nat} {v_pattern v_place : Value} {Q : Po Value} (O : c.Ok sc k) (hk : 4 ≤ k) (q : ∀ v ι', Sub ι ι' → InstF ι' v 695 [(s_pattern, v_pattern), (s_place, v_place)] → Q v m μ ι') : c.W (PySem.call (.ref 695) [v_pattern, v_place]) Q m μ ι :=
  W.new O (nF .PBang) (j := 2) (Nat.le_trans (by decide) hk) (fun x dx => init_PBang_p (.head _)) (fun v ι' fs hι hp I => by subst hp; exact q v ι' hι I)
theorem init_PInfix_p {x dx : Addr} {v_items v_place : Value} {ι : Led} (hx : (x, instObj 722 dx) ∈ ι) : Spec 2 712 [.ref x, v_items, v_place] [(dx, emptyDict)] ι (InitR dx (fun fs => fs = [(s_items, v_items), (s_place, v_place)])) := by
  refine' Spec.intro (k := 1) (loc := [(s_place, v_place), (s_items, v_items), (s_self, .ref x)]) hd.z712 hd.z711 ?ho ?hob ?hco' ?hcd ?hbind ?hloc ?hco ?hgen ?hk ?hcell ?hb
  walk_at "M.fnD"
  (case hbind => (intro P s XX; exact bindsD XX (by kernel_rfl : _ = some (hd.z705 P)) rfl rfl (by kernel_rfl!)))
  intro c ρ O
  walk_at "M.node"
  refine W.callS (init_Node hx (fF .PInfix_place)) O (by decide) fun r μ' ι' hι R => ?_
  refine oAEEAA R ?_; clear R; intro zo0 o fs zo3 d zo5; obtain rfl := zo0; obtain rfl := zo3; obtain rfl := zo5
  replace hx := hι _ hx
  walk_at "M.set"
  refine W.execs_nil ?_
  refine Ends.none (fl := Flow.next) (μ := [(dx, _)]) (ρ := ρ) rfl hι ?_
  exact ⟨rfl, _, _, rfl, by assumption, rfl⟩
theorem W.new_PInfix_p {c : Cx} {sc : Scope} {m : Lc} {μ ι : Led} {k : Nat} {v_items v_place : Value} {Q : Po Value} (O : c.Ok sc k) (hk : 4 ≤ k) (q : ∀ v ι', Sub ι ι' → InstF ι' v 722 [(s_items, v_items), (s_place, v_place)] → Q v m μ ι') : c.W (PySem.call (.ref 722) [v_items, v_place]) Q m μ ι :=
  W.new O (nF .PInfix) (j := 2) (Nat.le_trans (by decide) hk) (fun x dx => init_PInfix_p (.head _)) (fun v ι' fs hι hp I => by subst hp; exact q v ι' hι I)
theorem init_PParen_p {x dx : Addr} {v_pattern v_place : Value} {ι : Led} (hx : (x, instObj 749 dx) ∈ ι) : Spec 2 739 [.ref x, v_pattern, v_place] [(dx, emptyDict)] ι (InitR dx (fun fs => fs = [(s_pattern, v_pattern), (s_place, v_place)])) := by
  refine' Spec.intro (k := 1) (loc := [(s_place, v_place), (s_pattern, v_pattern), (s_self, .ref x)]) hd.z739 hd.z738 ?ho ?hob ?hco' ?hcd ?hbind ?hloc ?hco ?hgen ?hk ?hcell ?hb
  walk_at "M.fnD"
  (case hbind => (intro P s XX; exact bindsD XX (by kernel_rfl : _ = some (hd.z732 P)) rfl rfl (by kernel_rfl!)))
  intro c ρ O
  walk_at "M.node"
  refine W.callS (init_Node hx (fF .PParen_place)) O (by decide) fun r μ' ι' hι R => ?_
  refine oAEEAA R ?_; clear R; intro zo0 o fs zo3 d zo5; obtain rfl := zo0; obtain rfl := zo3; obtain rfl := zo5
  replace hx := hι _ hx
  walk_at "M.set"
  refine W.execs_nil ?_
  refine Ends.none (fl := Flow.next) (μ := [(dx, _)]) (ρ := ρ) rfl hι ?_
  exact ⟨rfl, _, _, rfl, by assumption, rfl⟩
theorem W.new_PParen_p {c : Cx} {sc : Scope} {m : Lc} {μ ι : Led} {k : Nat} {v_pattern v_place : Value} {Q : Po Value} (O : c.Ok sc k) (hk : 4 ≤ k) (q : ∀ v ι', Sub ι ι' → InstF ι' v 749 [(s_pattern, v_pattern), (s_place, v_place)] → Q v m μ ι') : c.W (PySem.call (.ref 749) [v_pattern, v_place]) Q m μ ι :=
  W.new O (nF .PParen) (j := 2) (Nat.le_trans (by decide) hk) (fun x dx => init_PParen_p (.head _)) (fun v ι' fs hι hp I => by subst hp; exact q v ι' hι I)
theorem init_WordRow {x dx : Addr} {v_words v_end : Value} {ι : Led} (hx : (x, instObj 905 dx) ∈ ι) : Spec 1 874 [.ref x, v_words, v_end] [(dx, emptyDict)] ι (InitR dx (fun fs => ∃ t, fs = [(s_at, .int 0 t), (s_end, v_end), (s_words, v_words)])) := by
  refine' Spec.intro (k := 0) (loc := [(s_end, v_end), (s_words, v_words), (s_self, .ref x)]) hd.z874 hd.z873 ?ho ?hob ?hco' ?hcd ?hbind ?hloc ?hco ?hgen ?hk ?hcell ?hb
  walk_at "M.fn"
  intro c ρ O
  have hι : Sub ι ι := Sub.refl
  have hd := DObj.empty
  walk_at "M.set"
  walk_at "M.set"
  refine W.asgAttr ?_
  refine W.cint fun t => ?_
  walk_at "M.w"
  refine W.setA (μ₁ := []) O (List.mem_append.mpr (.inr hx)) (by assumption) (FieldF.set (fF .WordRow_at)) (Nat.le_of_ble_eq_true (by kernel_rfl!)) fun _ _ => ?_
  refine W.execs_nil ?_
  refine Ends.none (fl := Flow.next) (μ := [(dx, _)]) (ρ := ρ) rfl hι ?_
  exact ⟨rfl, _, _, rfl, by assumption, ⟨t, rfl⟩⟩
theorem init_Word_4 {x dx : Addr} {v_kind v_text v_line v_column : Value} {ι : Led} (hx : (x, instObj 941 dx) ∈ ι) : Spec 1 924 [.ref x, v_kind, v_text, v_line, v_column] [(dx, emptyDict)] ι (InitR dx (fun fs => fs = [(s_is_first, .bool false), (s_value, .none), (s_column, v_column), (s_line, v_line), (s_text, v_text), (s_kind, v_kind)])) := by
  refine' Spec.intro (k := 0) (loc := [(s_is_first, .bool false), (s_value, .none), (s_column, v_column), (s_line, v_line), (s_text, v_text), (s_kind, v_kind), (s_self, .ref x)]) hd.z924 hd.z923 ?ho ?hob ?hco' ?hcd ?hbind ?hloc ?hco ?hgen ?hk ?hcell ?hb
  walk_at "M.fnD"
  (case hbind => (intro P s XX; exact bindsD XX (by kernel_rfl : _ = some (hd.z917 P)) rfl rfl (by kernel_rfl!)))
  intro c ρ O
  have hι : Sub ι ι := Sub.refl
  have hd := DObj.empty
  walk_at "M.set"
  walk_at "M.set"
  walk_at "M.set"
  walk_at "M.set"
  walk_at "M.set"
  walk_at "M.set"
  refine W.execs_nil ?_
  refine Ends.none (fl := Flow.next) (μ := [(dx, _)]) (ρ := ρ) rfl hι ?_
  exact ⟨rfl, _, _, rfl, by assumption, rfl⟩
theorem W.new_Word_4 {c : Cx} {sc : Scope} {m : Lc} {μ ι : Led} {k : Nat} {v_kind v_text v_line v_column : Value} {Q : Po Value} (O : c.Ok sc k) (hk : 4 ≤ k) (q : ∀ v ι', Sub ι ι' → InstF ι' v 941 [(s_is_first, .bool false), (s_value, .none), (s_column, v_column), (s_line, v_line), (s_text, v_text), (s_kind, v_kind)] → Q v m μ ι') : c.W (PySem.call (.ref 941) [v_kind, v_text, v_line, v_column]) Q m μ ι :=
  W.new O (nF .Word) (j := 1) (Nat.le_trans (by decide) hk) (fun x dx => init_Word_4 (.head _)) (fun v ι' fs hι hp I => by subst hp; exact q v ι' hι I)
theorem init_Word_5 {x dx : Addr} {v_kind v_text v_line v_column v_value : Value} {ι : Led} (hx : (x, instObj 941 dx) ∈ ι) : Spec 1 924 [.ref x, v_kind, v_text, v_line, v_column, v_value] [(dx, emptyDict)] ι (InitR dx (fun fs => fs = [(s_is_first, .bool false), (s_value, v_value), (s_column, v_column), (s_line, v_line), (s_text, v_text), (s_kind, v_kind)])) := by
  refine' Spec.intro (k := 0) (loc := [(s_is_first, .bool false), (s_value, v_value), (s_column, v_column), (s_line, v_line), (s_text, v_text), (s_kind, v_kind), (s_self, .ref x)]) hd.z924 hd.z923 ?ho ?hob ?hco' ?hcd ?hbind ?hloc ?hco ?hgen ?hk ?hcell ?hb
  walk_at "M.fnD"
  (case hbind => (intro P s XX; exact bindsD XX (by kernel_rfl : _ = some (hd.z917 P)) rfl rfl (by kernel_rfl!)))
  intro c ρ O
  have hι : Sub ι ι := Sub.refl
  have hd := DObj.empty
  walk_at "M.set"
  walk_at "M.set"
  walk_at "M.set"
  walk_at "M.set"
  walk_at "M.set"
  walk_at "M.set"
  refine W.execs_nil ?_
  refine Ends.none (fl := Flow.next) (μ := [(dx, _)]) (ρ := ρ) rfl hι ?_
  exact ⟨rfl, _, _, rfl, by assumption, rfl⟩
theorem W.new_Word_5 {c : Cx} {sc : Scope} {m : Lc} {μ ι : Led} {k : Nat} {v_kind v_text v_line v_column v_value : Value} {Q : Po Value} (O : c.Ok sc k) (hk : 4 ≤ k) (q : ∀ v ι', Sub ι ι' → InstF ι' v 941 [(s_is_first, .bool false), (s_value, v_value), (s_column, v_column), (s_line, v_line), (s_text, v_text), (s_kind, v_kind)] → Q v m μ ι') : c.W (PySem.call (.ref 941) [v_kind, v_text, v_line, v_column, v_value]) Q m μ ι :=
  W.new O (nF .Word) (j := 1) (Nat.le_trans (by decide) hk) (fun x dx => init_Word_5 (.head _)) (fun v ι' fs hι hp I => by subst hp; exact q v ι' hι I)
section
variable {c : Cx} {sc : Scope} {m : Lc} {μ ι ρ : Led} {k : Nat}
theorem W.wkind {v : Value} {a t : Str} {x : Value} {Q : Po Value} (O : c.Ok sc k) (h : WordV ι v a t x) (q : ∀ tk, Q (.str a tk) m μ ι) : c.W (getAttr v s_kind true) Q m μ ι := by
  obtain ⟨⟨_, _, _, _, _, _, _, I⟩, _, _⟩ := h
  exact W.fld_ O I (.there rfl (.there rfl (.there rfl (.there rfl (.there rfl .here))))) (fF .Word_kind) (q _)
theorem W.wtext {v : Value} {a t : Str} {x : Value} {Q : Po Value} (O : c.Ok sc k) (h : WordV ι v a t x) (q : ∀ tk, Q (.str t tk) m μ ι) : c.W (getAttr v s_text true) Q m μ ι := by
  obtain ⟨⟨_, _, _, _, _, _, _, I⟩, _, _⟩ := h
  exact W.fld_ O I (.there rfl (.there rfl (.there rfl (.there rfl .here)))) (fF .Word_text) (q _)
theorem W.wvalue {v : Value} {a t : Str} {x : Value} {Q : Po Value} (O : c.Ok sc k) (h : WordV ι v a t x) (q : Q x m μ ι) : c.W (getAttr v s_value true) Q m μ ι := by
  obtain ⟨⟨_, _, _, _, _, _, _, I⟩, hx, _⟩ := h
  exact W.fld_ O I (.there rfl .here) (fF .Word_value) q hx
theorem W.wmeth {v : Value} {a t : Str} {x : Value} {nm : Str} {f : Addr} {pl : Sem Bool} {Q : Po (Value × List Value)} (O : c.Ok sc k) (h : WordV ι v a t x) (ok : MethF 941 nm f) (q : Q (.ref f, [v]) m μ ι)
    (hn : nowhere nm [(s_is_first, .none), (s_value, .none), (s_column, .none), (s_line, .none), (s_text, .none), (s_kind, .none)] = true := by kernel_rfl) : c.W (getMethod v nm pl) Q m μ ι := by
  obtain ⟨⟨_, _, _, _, _, _, _, I⟩, hx, _⟩ := h
  exact W.meth_ O I hn ok q
structure Rd where
  xc : Addr
  dc : Addr
  xr : Addr
  dr : Addr
  wl : Value
  ws : List Value
  e : Value
structure Rd.Ok (R : Rd) (ι : Led) : Prop where
  c : (R.xc, instObj 174 R.dc) ∈ ι
  r : (R.xr, instObj 905 R.dr) ∈ ι
  l : ListF ι R.wl R.ws
  e : WordV ι R.e s_end h_nil .none
  n : R.ws.length < 2 ^ 20
  hl : handedIn R.wl = true
  he : handedIn R.e = true
theorem Rd.Ok.mono {R : Rd} {n n' : Led} (o : R.Ok n) (h : Sub n n') : R.Ok n' := ⟨h _ o.c, h _ o.r, o.l.mono h, o.e.mono h, o.n, o.hl, o.he⟩
noncomputable def Rd.at (R : Rd) (i : Nat) : Value := R.ws[i]?.getD R.e
theorem WordV.href {ι : Led} {v x : Value} {k t : Str} (h : WordV ι v k t x) : handedIn v = true := by
  refine oEEEEEEE h.ex fun _ _ _ _ _ _ _ I => ?_
  refine oEEEEA I.ex fun y _ _ _ zo4 _ => ?_; obtain rfl := zo4
  rfl
structure Cur (R : Rd) (i : Nat) (μ : Led) : Prop where
  ex : ∃ oc orr la t, μ = [(R.dc, oc), (R.dr, orr)] ∧ handedIn la = true ∧ DObj oc [(s_last, la), (s_layout, .ref R.xr)] ∧ DObj orr [(s_at, .int i t), (s_end, R.e), (s_words, R.wl)]
theorem W.cmeth {R : Rd} {i : Nat} {nm : Str} {f : Addr} {pl : Sem Bool} {Q : Po (Value × List Value)} (O : c.Ok sc k) (h : Cur R i μ) (o : R.Ok ι) (ok : MethF 174 nm f) (q : Q (.ref f, [.ref R.xc]) m (μ ++ ρ) ι)
    (hn : nowhere nm [(s_last, .none), (s_layout, .none)] = true := by kernel_rfl) : c.W (getMethod (.ref R.xc) nm pl) Q m (μ ++ ρ) ι := by
  refine oEEEEAAA h.ex fun oc orr la t zo4 _ dc dr => ?_; obtain rfl := zo4
  exact W.methM O o.c (.head _) dc hn ok q
end
local macro_rules | `(tactic| walk_at "M.getA") => `(tactic| ((with_reducible first | refine' W.wkind (by assumption) ?h ?q | refine' W.wtext (by assumption) ?h ?q | refine' W.wvalue (by assumption) ?h ?q); (case h => walk_at "M.fact"); intros))
local macro_rules | `(tactic| walk_at "M.meth") => `(tactic| first
  | (refine' W.wmeth (by assumption) ?h ?ok ?q; (case h => walk_at "M.fact"); (case ok => walk_at "M.methF"))
  | (refine' W.cmeth (by assumption) ?hC ?hO ?ok ?q; (case hC => assumption); (case hO => walk_at "M.fact"); (case ok => walk_at "M.methF")))
local macro_rules | `(tactic| walk_at "M.rd") => `(tactic| first | with_reducible assumption | (refine' Rd.Ok.mono ?h ?s; walk_at "M.mono"))
local macro_rules | `(tactic| walk_at "M.fact") => `(tactic| first | ((first | refine Rd.Ok.c ?_ | refine Rd.Ok.r ?_ | refine Rd.Ok.l ?_); walk_at "M.rd") | (refine' Rd.Ok.mono ?h ?s; walk_at "M.mono"))
theorem rowpeek {R : Rd} {i : Nat} {μ ι : Led} (h : Cur R i μ) (ok : R.Ok ι) : Spec 1 881 [.ref R.xr] μ ι (Gives (fun r => r = R.at i) μ) := by
  refine oEEEEAAA h.ex fun oc orr la t zo4 hla dc dr => ?_; obtain rfl := zo4
  have h1 := ok.hl
  have h2 := ok.he
  refine' Spec.intro (k := 0) (loc := [(s_self, .ref R.xr)]) hd.z881 hd.z880 ?ho ?hob ?hco' ?hcd ?hbind ?hloc ?hco ?hgen ?hk ?hcell ?hb
  walk_at "M.fn"
  intro c ρ O
  walk_at "rw"
  refine W.len_ ok.l (Nat.lt_trans ok.n (by decide)) fun _ => ?_
  walk_at "rw"
  have e : decide ((i : Int) < (R.ws.length : Int)) = decide (i < R.ws.length) := by simp
  rw [e]
  by_cases q : i < R.ws.length
  · refine W.iteT (decide_eq_true q) ?_
    walk_at "rw"
    refine W.item_ ok.l (by walk_at "o") (by have := ok.n; walk_at "o") (x := R.ws[i]) (by simp) ?_
    exact Ends.gives Sub.refl (by simp [Rd.at, q])
  · refine W.iteF (decide_eq_false q) ?_
    walk_at "rw"
    exact Ends.gives Sub.refl (by simp [Rd.at, q])
def Moves (R : Rd) (j : Nat) (P : Value → Led → Prop) : Value → Led → Led → Prop := fun r μ' ι' => P r ι' ∧ Cur R j μ'
theorem rownext {R : Rd} {i : Nat} {μ ι : Led} (h : Cur R i μ) (ok : R.Ok ι) (hi : i < R.ws.length) : Spec 2 888 [.ref R.xr] μ ι (Moves R (i + 1) fun r _ => r = R.at i) := by
  refine oEEEEAAA h.ex fun oc orr la t zo4 hla dc dr => ?_; obtain rfl := zo4
  have h1 := ok.hl
  have h2 := ok.he
  refine' Spec.intro (k := 1) (loc := [(s_self, .ref R.xr)]) hd.z888 hd.z887 ?ho ?hob ?hco' ?hcd ?hbind ?hloc ?hco ?hgen ?hk ?hcell ?hb
  walk_at "M.fn"
  intro c ρ O
  walk_at "rw"
  refine W.callS (rowpeek h ok) O (by decide) fun r μ' ι' s q => ?_
  obtain ⟨rfl, rfl⟩ := q
  walk_at "rw"
  refine W.len_ (ok.l.mono s) (Nat.lt_trans ok.n (by decide)) fun _ => ?_
  walk_at "rw"
  refine W.iteT (decide_eq_true (by walk_at "o")) ?_
  walk_at "rw"
  rename_i tk
  refine W.setU (μ₁ := [(R.dc, oc)]) O (s _ ok.r) dr (fF .WordRow_at) (fs' := [(s_at, .int ((i + 1 : Nat) : Int) tk), (s_end, R.e), (s_words, R.wl)]) (by kernel_rfl!) (by rfl) fun o' d' => ?_
  walk_at "rw"
  exact Ends.ret (μ := [(R.dc, oc), (R.dr, o')]) (ρ := ρ) s ⟨rfl, oc, o', la, _, rfl, hla, dc, d'⟩
theorem curpeek {R : Rd} {i : Nat} {μ ι : Led} (h : Cur R i μ) (ok : R.Ok ι) : Spec 2 91 [.ref R.xc] μ ι (Gives (fun r => r = R.at i) μ) := by
  refine oEEEEAAA h.ex fun oc orr la t zo4 hla dc dr => ?_; obtain rfl := zo4
  refine' Spec.intro (k := 1) (loc := [(s_self, .ref R.xc)]) hd.z91 hd.z90 ?ho ?hob ?hco' ?hcd ?hbind ?hloc ?hco ?hgen ?hk ?hcell ?hb
  walk_at "M.fn"
  intro c ρ O
  walk_at "rw"
  refine W.callS (rowpeek h ok) O (by decide) fun r μ' ι' s q => ?_
  obtain ⟨rfl, rfl⟩ := q
  exact Ends.gives s rfl
theorem curnext {R : Rd} {i : Nat} {μ ι : Led} (h : Cur R i μ) (ok : R.Ok ι) (hi : i < R.ws.length) (h3 : handedIn (R.at i) = true) : Spec 3 98 [.ref R.xc] μ ι (Moves R (i + 1) fun r _ => r = R.at i) := by
  refine oEEEEAAA h.ex fun oc orr la t zo4 hla dc dr => ?_; obtain rfl := zo4
  refine' Spec.intro (k := 2) (loc := [(s_self, .ref R.xc)]) hd.z98 hd.z97 ?ho ?hob ?hco' ?hcd ?hbind ?hloc ?hco ?hgen ?hk ?hcell ?hb
  walk_at "M.fn"
  intro c ρ O
  walk_at "rw"
  refine W.callS (rownext h ok hi) O (by decide) fun r μ' ι' s q => ?_
  obtain ⟨rfl, h'⟩ := q
  refine oEEEEAAA h'.ex fun oc' orr' la' t' zo4 hla' dc' dr' => ?_; obtain rfl := zo4
  walk_at "rw"
  refine W.setU (μ₁ := []) O (s _ ok.c) dc' (fF .Cursor_last) (fs' := [(s_last, R.at i), (s_layout, .ref R.xr)]) (by kernel_rfl!) (by rfl) fun o' d' => ?_
  have s2 : Sub ι ι' := s
  walk_at "rw"
  exact Ends.ret (μ := [(R.dc, o'), (R.dr, orr')]) (ρ := ρ) s ⟨rfl, o', orr', _, _, rfl, h3, d', dr'⟩
theorem curplace {R : Rd} {i : Nat} {μ ι : Led} {k t : Str} {x : Value} (h : Cur R i μ) (ok : R.Ok ι) (hw : WordV ι (R.at i) k t x) : Spec 2 105 [.ref R.xc] μ ι (Gives (fun r => ∃ a, r = .ref a) μ) := by
  refine oEEEEAAA h.ex fun oc orr la t zo4 hla dc dr => ?_; obtain rfl := zo4
  refine' Spec.intro (k := 1) (loc := [(s_self, .ref R.xc)]) hd.z105 hd.z104 ?ho ?hob ?hco' ?hcd ?hbind ?hloc ?hco ?hgen ?hk ?hcell ?hb
  walk_at "M.fn"
  intro c ρ O
  walk_at "rw"
  refine W.callS (rowpeek h ok) O (by decide) fun r μ' ι' s q => ?_
  obtain ⟨rfl, rfl⟩ := q
  walk_at "rw"
  refine W.callS (μ := []) (place_ (hw.mono s)) O (by decide) fun r μ' ι'' s' q => ?_
  obtain ⟨q, rfl⟩ := q
  exact Ends.gives (Sub.trans s s') q
theorem curbehind {R : Rd} {i : Nat} {μ ι : Led} (h : Cur R i μ) (ok : R.Ok ι) (hi : i + 1 < R.ws.length) : Spec 1 112 [.ref R.xc] μ ι (Gives (fun r => r = R.at (i + 1)) μ) := by
  refine oEEEEAAA h.ex fun oc orr la t zo4 hla dc dr => ?_; obtain rfl := zo4
  have h1 := ok.hl
  refine' Spec.intro (k := 0) (loc := [(s_self, .ref R.xc)]) hd.z112 hd.z111 ?ho ?hob ?hco' ?hcd ?hbind ?hloc ?hco ?hgen ?hk ?hcell ?hb
  walk_at "M.fn"
  intro c ρ O
  walk_at "rw"
  refine W.len_ ok.l (Nat.lt_trans ok.n (by decide)) fun _ => ?_
  walk_at "rw"
  refine W.minI O fun _ => ?_
  have e : (if (R.ws.length : Int) - 1 < (i : Int) + 1 then (R.ws.length : Int) - 1 else (i : Int) + 1) = ((i + 1 : Nat) : Int) := by split <;> walk_at "o"
  rw [e]
  refine W.item_ ok.l (by walk_at "o") (by have := ok.n; walk_at "o") (x := R.ws[i + 1]) (by simp [hi]) ?_
  exact Ends.gives Sub.refl (by simp [Rd.at, hi])
noncomputable def textIs (tv : Value) (t : Str) : Bool := match tv with | .str t' _ => t == t' | _ => true
theorem is_at {R : Rd} {i : Nat} {μ ι : Led} {k t k' : Str} {x tv : Value} {t1 : Tok} (h : Cur R i μ) (ok : R.Ok ι) (hw : WordV ι (R.at i) k t x) (htv : tv = .none ∨ ∃ t' u, tv = .str t' u) (vs : List Value) (hvs : vs = [tv] ∨ (vs = [] ∧ tv = .none)) :
    Spec 2 127 (.ref R.xc :: .str k' t1 :: vs) μ ι (Gives (fun r => r = .bool (k == k' && textIs tv t)) μ) := by
  refine oEEEEAAA h.ex fun oc orr la t zo4 hla dc dr => ?_; obtain rfl := zo4
  refine' Spec.intro (k := 1) (loc := [(s_text, tv), (s_kind, .str k' t1), (s_self, .ref R.xc)]) hd.z127 hd.z126 ?ho ?hob ?hco' ?hcd ?hbind ?hloc ?hco ?hgen ?hk ?hcell ?hb
  walk_at "M.fnD"
  (case hbind => rcases hvs with rfl | ⟨rfl, rfl⟩ <;> (intro P s XX; exact bindsD XX (by kernel_rfl : _ = some (hd.z120 P)) rfl rfl (by kernel_rfl!)))
  intro c ρ O
  walk_at "rw"
  refine W.callS (rowpeek h ok) O (by decide) fun r μ' ι' s q => ?_
  obtain ⟨rfl, rfl⟩ := q
  walk_at "rw"
  refine ⟨_, rfl, ?_⟩
  cases e : (k == k')
  · refine W.iteF rfl ?_
    exact Ends.gives s (by simp)
  · refine W.iteT rfl ?_
    rcases htv with rfl | ⟨t', u, rfl⟩
    · walk_at "rw"
      exact Ends.gives s (by simp [textIs])
    · walk_at "rw"
      exact Ends.gives s (by simp [textIs])
section
variable {c : Cx} {sc : Scope} {m : Lc} {μ ι ρ : Led} {k : Nat}
theorem W.c_is_at {R : Rd} {i : Nat} {a t k' : Str} {x tv : Value} {t1 : Tok} {Q : Po Value} (O : c.Ok sc k) (h : Cur R i μ) (ok : R.Ok ι) (hw : WordV ι (R.at i) a t x) (htv : tv = .none ∨ ∃ t' u, tv = .str t' u) (vs : List Value) (hvs : vs = [tv] ∨ (vs = [] ∧ tv = .none)) (hk : 2 ≤ k)
    (q : ∀ ι', Sub ι ι' → Q (.bool (a == k' && textIs tv t)) m (μ ++ ρ) ι') : c.W (PySem.call (.ref 127) (.ref R.xc :: .str k' t1 :: vs)) Q m (μ ++ ρ) ι :=
  W.callS (is_at h ok hw htv vs hvs) O hk fun r μ' ι' s g => by obtain ⟨rfl, rfl⟩ := g; exact q ι' s
theorem W.c_next {R : Rd} {i : Nat} {Q : Po Value} (O : c.Ok sc k) (h : Cur R i μ) (ok : R.Ok ι) (hi : i < R.ws.length) (hk : 3 ≤ k)
    (q : ∀ ι' μ', Sub ι ι' → Cur R (i + 1) μ' → Q (R.at i) m (μ' ++ ρ) ι') (h3 : handedIn (R.at i) = true := by exact WordV.href (by assumption)) : c.W (PySem.call (.ref 98) [.ref R.xc]) Q m (μ ++ ρ) ι :=
  W.callS (curnext h ok hi h3) O hk fun r μ' ι' s g => by obtain ⟨rfl, h'⟩ := g; exact q ι' μ' s h'
theorem W.c_peek {R : Rd} {i : Nat} {Q : Po Value} (O : c.Ok sc k) (h : Cur R i μ) (ok : R.Ok ι) (hk : 2 ≤ k)
    (q : ∀ ι', Sub ι ι' → Q (R.at i) m (μ ++ ρ) ι') : c.W (PySem.call (.ref 91) [.ref R.xc]) Q m (μ ++ ρ) ι :=
  W.callS (curpeek h ok) O hk fun r μ' ι' s g => by obtain ⟨rfl, rfl⟩ := g; exact q ι' s
theorem W.c_behind {R : Rd} {i : Nat} {Q : Po Value} (O : c.Ok sc k) (h : Cur R i μ) (ok : R.Ok ι) (hi : i + 1 < R.ws.length) (hk : 1 ≤ k)
    (q : ∀ ι', Sub ι ι' → Q (R.at (i + 1)) m (μ ++ ρ) ι') : c.W (PySem.call (.ref 112) [.ref R.xc]) Q m (μ ++ ρ) ι :=
  W.callS (curbehind h ok hi) O hk fun r μ' ι' s g => by obtain ⟨rfl, rfl⟩ := g; exact q ι' s
theorem W.c_place {R : Rd} {i : Nat} {a t : Str} {x : Value} {Q : Po Value} (O : c.Ok sc k) (h : Cur R i μ) (ok : R.Ok ι) (hw : WordV ι (R.at i) a t x) (hk : 2 ≤ k)
    (q : ∀ p ι', Sub ι ι' → Q (.ref p) m (μ ++ ρ) ι') : c.W (PySem.call (.ref 105) [.ref R.xc]) Q m (μ ++ ρ) ι :=
  W.callS (curplace h ok hw) O hk fun r μ' ι' s g => by obtain ⟨⟨p, rfl⟩, rfl⟩ := g; exact q p ι' s
theorem W.w_place {v : Value} {a t : Str} {x : Value} {Q : Po Value} (O : c.Ok sc k) (hw : WordV ι v a t x) (hk : 1 ≤ k)
    (q : ∀ p ι', Sub ι ι' → Q (.ref p) m μ ι') : c.W (PySem.call (.ref 931) [v]) Q m μ ι :=
  W.callS (μ := []) (place_ hw) O hk fun r μ' ι' s g => by obtain ⟨⟨p, rfl⟩, rfl⟩ := g; exact q p ι' s
theorem W.w_is_word {v : Value} {a t k' t' : Str} {x : Value} {t1 t2 : Tok} {Q : Po Value} (O : c.Ok sc k) (hw : WordV ι v a t x) (hk : 1 ≤ k)
    (q : ∀ ι', Sub ι ι' → Q (.bool (a == k' && t == t')) m μ ι') : c.W (PySem.call (.ref 938) [v, .str k' t1, .str t' t2]) Q m μ ι :=
  W.callS (μ := []) (is_word hw) O hk fun r μ' ι' s g => by obtain ⟨rfl, rfl⟩ := g; exact q ι' s
end
theorem take {R : Rd} {i : Nat} {μ ι : Led} {k t k' t' : Str} {x : Value} {t1 t2 : Tok} (h : Cur R i μ) (ok : R.Ok ι) (hw : WordV ι (R.at i) k t x) (hi : (k == k' && t == t') = true → i < R.ws.length) :
    Spec 4 135 [.ref R.xc, .str k' t1, .str t' t2] μ ι (Moves R (if k == k' && t == t' then i + 1 else i) fun r _ => r = .bool (k == k' && t == t')) := by
  refine' Spec.intro (k := 3) (loc := [(s_text, .str t' t2), (s_kind, .str k' t1), (s_self, .ref R.xc)]) hd.z135 hd.z134 ?ho ?hob ?hco' ?hcd ?hbind ?hloc ?hco ?hgen ?hk ?hcell ?hb
  walk_at "M.fnD"
  (case hbind => (intro P s XX; exact bindsD XX (by kernel_rfl : _ = some (hd.z128 P)) rfl rfl (by kernel_rfl!)))
  intro c ρ O
  walk_at "rw"
  refine W.c_is_at O h ok hw (.inr ⟨_, _, rfl⟩) [_] (.inl rfl) (by decide) fun ι' s => ?_
  walk_at "rw"
  show ite _ _ _
  cases e : (k == k' && t == t')
  · refine W.iteT (by simp [textIs, e]) ?_
    walk_at "rw"
    exact Ends.ret s ⟨rfl, by simpa using h⟩
  · refine W.iteF (by simp [textIs, e]) ?_
    walk_at "rw"
    refine W.c_next O h (ok.mono s) (hi e) (by decide) fun ι'' μ' s' h' => ?_
    walk_at "rw"
    exact Ends.ret (Sub.trans s s') ⟨rfl, by simpa using h'⟩
theorem want {R : Rd} {i : Nat} {μ ι : Led} {k t k' : Str} {x tv : Value} {t1 : Tok} (h : Cur R i μ) (ok : R.Ok ι) (hw : WordV ι (R.at i) k t x) (hi : i < R.ws.length) (hk : k = k') (htv : tv = .none ∨ ∃ u, tv = .str t u) (vs : List Value) (hvs : vs = [tv] ∨ (vs = [] ∧ tv = .none)) :
    Spec 4 143 (.ref R.xc :: .str k' t1 :: vs) μ ι (Moves R (i + 1) fun r _ => r = R.at i) := by
  refine' Spec.intro (k := 3) (loc := [(s_text, tv), (s_kind, .str k' t1), (s_self, .ref R.xc)]) hd.z143 hd.z142 ?ho ?hob ?hco' ?hcd ?hbind ?hloc ?hco ?hgen ?hk ?hcell ?hb
  walk_at "M.fnD"
  (case hbind => rcases hvs with rfl | ⟨rfl, rfl⟩ <;> (intro P s XX; exact bindsD XX (by kernel_rfl : _ = some (hd.z136 P)) rfl rfl (by kernel_rfl!)))
  intro c ρ O
  subst hk
  walk_at "rw"
  refine W.c_is_at O h ok hw (htv.imp id fun ⟨u, e⟩ => ⟨_, u, e⟩) [_] (.inl rfl) (by decide) fun ι' s => ?_
  walk_at "rw"
  show ite _ _ _
  refine W.iteF (by rcases htv with rfl | ⟨u, rfl⟩ <;> simp [textIs]) ?_
  walk_at "rw"
  refine W.c_next O h (ok.mono s) hi (by decide) fun ι'' μ' s' h' => ?_
  exact Ends.ret (Sub.trans s s') ⟨rfl, h'⟩
section
variable {c : Cx} {sc : Scope} {m : Lc} {μ ι ρ : Led} {k : Nat}
theorem W.addS {x y : Str} {t u : Tok} {Q : Po Value} (hsz : x.length + y.length ≤ sizeLine) (q : ∀ t, Q (.str (x ++ y) t) m μ ι) : c.W (binaryOp .Add (.str x t) (.str y u)) Q m μ ι := .mk fun hp tk S => SB.add (fun t' k => S.same (q t')) hsz
structure WordsK (t : Addr) (ys : List Str) : Prop where
  ex : ∃ K, Kin K ∧ ∀ P, ∃ o n vs, (K P).lookup t = some o ∧ o.cls = .type "tuple" ∧ o.data = .seq vs n ∧ StrsAre vs.toList ys
theorem W.inK {t : Addr} {ys : List Str} {x : Str} {u : Tok} {Q : Po Value} (O : c.Ok sc k) (h : WordsK t ys) (q : Q (.bool (ys.any (· == x))) m μ ι) : c.W (compareOp .In (.str x u) (.ref t)) Q m μ ι := .mk fun hp tk S => by
  refine oEA h.ex fun K X h => ?_
  refine oEEEAAA (h c.w.params) fun o n vs ho hc hd hs => ?_
  exact in_tuple_strs ⟨o, X _ _ (S.inK O) _ _ ho, hc, n, hd⟩ hs (S.same q)
theorem W.inT {v : Value} {vs : List Value} {ys : List Str} {x : Str} {u : Tok} {Q : Po Value} (ht : TupF ι v vs) (hi : StrsAre vs ys) (q : Q (.bool (ys.any (· == x))) m μ ι) : c.W (compareOp .In (.str x u) v) Q m μ ι := by
  refine oEEA ht.ex fun a n zo2 hm => ?_; obtain rfl := zo2
  exact W.inTup (List.mem_append.mpr (.inr hm)) hi q
end
theorem full_name {ι : Led} {v : Value} {k t : Str} {x : Value} {n : Str} (hw : WordV ι v k t x) (hx : (x = .none ∧ n = t) ∨ ∃ y u, x = .str y u ∧ n = y ++ h_7 ++ t ∧ y.length + 1 + t.length ≤ 1000) : Spec 1 70 [v] [] ι (Gives (fun r => ∃ u, r = .str n u) []) := by
  refine' Spec.intro (k := 0) (loc := [(s_word, v)]) hd.z70 hd.z69 ?ho ?hob ?hco' ?hcd ?hbind ?hloc ?hco ?hgen ?hk ?hcell ?hb
  walk_at "M.fn"
  intro c ρ O
  rcases hx with ⟨rfl, rfl⟩ | ⟨y, u, rfl, rfl, hn⟩
  · walk_at "rw"
    exact Ends.gives Sub.refl ⟨_, rfl⟩
  · walk_at "rw"
    have hS : sizeLine = 16777216 := sizeLine_eq
    refine W.addS (by show y.length + 1 ≤ _; walk_at "o") fun _ => ?_
    walk_at "rw"
    refine W.addS (by rw [Str.length_append]; show y.length + 1 + _ ≤ _; walk_at "o") fun _ => ?_
    exact Ends.gives Sub.refl ⟨_, rfl⟩
noncomputable def opTok (k t : Str) : Bool := k == s_consym || (k == s_op && t == h_10) || (k == s_special && t == h_11)
noncomputable def symTok (k t : Str) : Bool := k == s_consym || (k == s_op && t == h_10)
noncomputable def litTok (k : Str) : Bool := [s_int, s_char, s_text].any (· == k)
noncomputable def atomTok (k t : Str) (x : Value) : Bool :=
  if k == s_var then x == .none else if k == s_con || litTok k then true else if k == s_special then [h_13, h_14].any (· == t) else (k == s_key && t == h_15) || (k == s_op && t == h_16) || (k == s_varsym && t == h_17)
theorem is_con_operator {R : Rd} {i : Nat} {μ ι : Led} {k t : Str} {x : Value} (h : Cur R i μ) (ok : R.Ok ι) (hw : WordV ι (R.at i) k t x) : Spec 3 766 [.ref R.xc] μ ι (Gives (fun r => r = .bool (opTok k t)) μ) := by
  refine' Spec.intro (k := 2) (loc := [(s_cursor, .ref R.xc)]) hd.z766 hd.z765 ?ho ?hob ?hco' ?hcd ?hbind ?hloc ?hco ?hgen ?hk ?hcell ?hb
  walk_at "M.fn"
  intro c ρ O
  walk_at "rw"
  refine W.c_is_at O h ok hw (.inl rfl) [] (.inr ⟨rfl, rfl⟩) (by decide) fun ι' s => ?_
  refine ⟨_, rfl, ?_⟩
  cases e1 : (k == s_consym)
  · refine W.iteF (by simp [textIs]) ?_
    walk_at "rw"
    refine W.c_is_at O h (ok.mono s) (hw.mono s) (.inr ⟨_, _, rfl⟩) [_] (.inl rfl) (by decide) fun ι₂ s₂ => ?_
    refine ⟨_, rfl, ?_⟩
    cases e2 : (k == s_op && t == h_10)
    · refine W.iteF (by simpa [textIs] using e2) ?_
      have s₃ := Sub.trans s s₂
      walk_at "rw"
      refine W.c_is_at O h (ok.mono s₃) (hw.mono s₃) (.inr ⟨_, _, rfl⟩) [_] (.inl rfl) (by decide) fun ι₄ s₄ => ?_
      exact Ends.gives (Sub.trans s₃ s₄) (by simp [opTok, e1, e2, textIs])
    · refine W.iteT (by simpa [textIs] using e2) ?_
      exact Ends.gives (Sub.trans s s₂) (by simp [opTok, e1, e2])
  · refine W.iteT (by simp [textIs]) ?_
    exact Ends.gives s (by simp [opTok, e1])
theorem is_con_symbol {ι : Led} {v : Value} {k t : Str} {x : Value} (hw : WordV ι v k t x) : Spec 2 794 [v] [] ι (Gives (fun r => r = .bool (symTok k t)) []) := by
  refine' Spec.intro (k := 1) (loc := [(s_word, v)]) hd.z794 hd.z793 ?ho ?hob ?hco' ?hcd ?hbind ?hloc ?hco ?hgen ?hk ?hcell ?hb
  walk_at "M.fn"
  intro c ρ O
  walk_at "rw"
  refine ⟨_, rfl, ?_⟩
  cases e1 : (k == s_consym)
  · refine W.iteF rfl ?_
    walk_at "rw"
    refine W.w_is_word O hw (by decide) fun ι' s => ?_
    exact Ends.gives s (by simp [symTok, e1])
  · refine W.iteT rfl ?_
    exact Ends.gives Sub.refl (by simp [symTok, e1])
theorem litsK : WordsK 752 [s_int, s_char, s_text] := ⟨fun P => [(752, hd.z752 P)], Kin.cons (fun P => by kernel_rfl) Kin.nil, fun P => ⟨hd.z752 P, _, _, rfl, rfl, rfl, .cons _ _ (.cons _ _ (.cons _ _ .nil))⟩⟩
theorem is_pattern_atom {R : Rd} {i : Nat} {μ ι : Led} {k t : Str} {x : Value} (h : Cur R i μ) (ok : R.Ok ι) (hw : WordV ι (R.at i) k t x) : Spec 3 801 [.ref R.xc] μ ι (Gives (fun r => r = .bool (atomTok k t x)) μ) := by
  refine' Spec.intro (k := 2) (loc := [(s_cursor, .ref R.xc)]) hd.z801 hd.z800 ?ho ?hob ?hco' ?hcd ?hbind ?hloc ?hco ?hgen ?hk ?hcell ?hb
  walk_at "M.fn"
  intro c ρ O
  have hpl := hw.pl
  walk_at "rw"
  refine W.c_peek O h ok (by decide) fun ι' s => ?_
  walk_at "rw"
  show ite _ _ _
  cases e1 : (k == s_var)
  case true =>
    refine W.iteT rfl ?_
    walk_at "rw"
    refine W.is_ hpl ?_
    exact Ends.gives s (by simp [atomTok, e1])
  refine W.iteF rfl ?_
  walk_at "rw"
  show ite _ _ _
  cases e2 : (k == s_con)
  case true =>
    refine W.iteT rfl ?_
    walk_at "rw"
    exact Ends.gives s (by simp [atomTok, e1, e2])
  refine W.iteF rfl ?_
  walk_at "rw"
  refine W.inK O litsK ?_
  walk_at "rw"
  show ite _ _ _
  cases e3 : litTok k
  case true =>
    refine W.iteT e3 ?_
    walk_at "rw"
    exact Ends.gives s (by simp [atomTok, e1, e2, e3])
  refine W.iteF e3 ?_
  walk_at "rw"
  show ite _ _ _
  cases e4 : (k == s_special)
  case true =>
    refine W.iteT rfl ?_
    walk_at "rw"
    refine W.tup_ (by walk_at "M.sz") fun v ι₂ s₂ ht => ?_
    refine W.inT ht (.cons _ _ (.cons _ _ .nil)) ?_
    exact Ends.gives (Sub.trans s s₂) (by simp [atomTok, e1, e2, e3, e4])
  refine W.iteF rfl ?_
  walk_at "rw"
  have hw1 := hw.mono s
  refine W.w_is_word O hw1 (by decide) fun ι₂ s₂ => ?_
  refine ⟨_, rfl, ?_⟩
  cases e5 : (k == s_key && t == h_15)
  case true =>
    refine W.iteT rfl ?_
    exact Ends.gives (Sub.trans s s₂) (by simp [atomTok, e1, e2, e3, e4, e5])
  refine W.iteF rfl ?_
  walk_at "rw"
  have hw2 := hw1.mono s₂
  refine W.w_is_word O hw2 (by decide) fun ι₃ s₃ => ?_
  refine ⟨_, rfl, ?_⟩
  cases e6 : (k == s_op && t == h_16)
  case true =>
    refine W.iteT rfl ?_
    exact Ends.gives (Sub.trans s (Sub.trans s₂ s₃)) (by simp [atomTok, e1, e2, e3, e4, e5, e6])
  refine W.iteF rfl ?_
  walk_at "rw"
  have hw3 := hw2.mono s₃
  refine W.w_is_word O hw3 (by decide) fun ι₄ s₄ => ?_
  exact Ends.gives (Sub.trans s (Sub.trans s₂ (Sub.trans s₃ s₄))) (by simp [atomTok, e1, e2, e3, e4, e5, e6])
def Seg (R : Rd) (i : Nat) (ws : List Value) : Prop := ∃ pre post, R.ws = pre ++ (ws ++ post) ∧ pre.length = i
theorem Seg.head {R : Rd} {i : Nat} {v : Value} {ws : List Value} (s : Seg R i (v :: ws)) : R.at i = v ∧ i < R.ws.length ∧ Seg R (i + 1) ws := by
  refine oEEA s ?_; clear s; intro pre post e zo3; obtain rfl := zo3
  refine ⟨?_, ?_, pre ++ [v], post, ?_, by simp⟩
  · unfold Rd.at; rw [e]; simp
  · rw [e]; simp
  · rw [e]; simp
theorem Seg.app {R : Rd} {i : Nat} {a b : List Value} (s : Seg R i (a ++ b)) : Seg R i a ∧ Seg R (i + a.length) b := by
  refine oEEA s ?_; clear s; intro pre post e zo3; obtain rfl := zo3
  exact ⟨⟨pre, b ++ post, by rw [e]; simp, rfl⟩, pre ++ a, post, by rw [e]; simp, by simp⟩
def FullN (x : Value) (t n : Str) : Prop := (x = .none ∧ n = t) ∨ ∃ y u, x = .str y u ∧ n = y ++ h_7 ++ t ∧ y.length + 1 + t.length ≤ 1000
inductive OpSeg (ι : Led) : List Value → Str → Prop
  | colon {v x} : WordV ι v s_op h_10 x → OpSeg ι [v] h_10
  | sym {v t x n} : WordV ι v s_consym t x → FullN x t n → OpSeg ι [v] n
  | tick {v₁ v₂ v₃ t x n x₁ x₃} : WordV ι v₁ s_special h_11 x₁ → WordV ι v₂ s_con t x → WordV ι v₃ s_special h_11 x₃ → FullN x t n → OpSeg ι [v₁, v₂, v₃] n
theorem OpSeg.mono {ι ι' : Led} {ws : List Value} {n : Str} (s : Sub ι ι') (h : OpSeg ι ws n) : OpSeg ι' ws n := by
  cases h with
  | colon a => exact .colon (a.mono s)
  | sym a b => exact .sym (a.mono s) b
  | tick a b d e => exact .tick (a.mono s) (b.mono s) (d.mono s) e
def OpN (ι : Led) (v : Value) (n : Str) : Prop := ∃ p u, InstF ι v 344 [(s_is_con, .bool true), (s_name, .str n u), (s_place, .ref p)]
theorem OpN.mono {ι ι' : Led} {v : Value} {n : Str} (h : OpN ι v n) (s : Sub ι ι') : OpN ι' v n := by refine oEE h ?_; clear h; intro p u I; exact ⟨p, u, I.mono s⟩
section
variable {c : Cx} {sc : Scope} {m : Lc} {μ ι ρ : Led} {k : Nat}
theorem W.c_full {v : Value} {a t : Str} {x : Value} {n : Str} {Q : Po Value} (O : c.Ok sc k) (hw : WordV ι v a t x) (hx : FullN x t n) (hk : 1 ≤ k) (q : ∀ u ι', Sub ι ι' → Q (.str n u) m μ ι') : c.W (PySem.call (.ref 70) [v]) Q m μ ι :=
  W.callS (μ := []) (full_name hw hx) O hk fun r μ' ι' s g => by obtain ⟨⟨u, rfl⟩, rfl⟩ := g; exact q u ι' s
theorem W.c_want {R : Rd} {i : Nat} {a t : Str} {x tv : Value} {t1 : Tok} {Q : Po Value} (O : c.Ok sc k) (h : Cur R i μ) (ok : R.Ok ι) (hw : WordV ι (R.at i) a t x) (hi : i < R.ws.length) (htv : tv = .none ∨ ∃ u, tv = .str t u) (vs : List Value) (hvs : vs = [tv] ∨ (vs = [] ∧ tv = .none)) (hk : 4 ≤ k)
    (q : ∀ ι' μ', Sub ι ι' → Cur R (i + 1) μ' → Q (R.at i) m (μ' ++ ρ) ι') : c.W (PySem.call (.ref 143) (.ref R.xc :: .str a t1 :: vs)) Q m (μ ++ ρ) ι :=
  W.callS (want h ok hw hi rfl htv vs hvs) O hk fun r μ' ι' s g => by obtain ⟨rfl, h'⟩ := g; exact q ι' μ' s h'
end
theorem read_con_operator {R : Rd} {i : Nat} {μ ι : Led} {ws : List Value} {n : Str} (h : Cur R i μ) (ok : R.Ok ι) (sg : Seg R i ws) (hs : OpSeg ι ws n) : Spec 5 773 [.ref R.xc] μ ι (Moves R (i + ws.length) fun r ι' => OpN ι' r n) := by
  refine' Spec.intro (k := 4) (loc := [(s_cursor, .ref R.xc)]) hd.z773 hd.z772 ?ho ?hob ?hco' ?hcd ?hbind ?hloc ?hco ?hgen ?hk ?hcell ?hb
  walk_at "M.fn"
  intro c ρ O
  cases hs with
  | colon hw =>
    refine oAA sg.head fun zo0 hi _ => ?_; obtain rfl := zo0
    walk_at "rw"
    refine W.c_next O h ok hi (by decide) fun ι' μ' s h' => ?_
    walk_at "rw"
    have hw' := hw.mono s
    refine W.w_place O hw' (by decide) fun p ι'' s' => ?_
    walk_at "rw"
    refine W.new_Op_p O (by decide) fun v ι₃ s₃ I => ?_
    exact Ends.ret (Sub.trans s (Sub.trans s' s₃)) ⟨⟨_, _, I⟩, h'⟩
  | sym hw hf =>
    refine oAA sg.head fun zo0 hi _ => ?_; obtain rfl := zo0
    walk_at "rw"
    refine W.c_next O h ok hi (by decide) fun ι' μ' s h' => ?_
    have hw' := hw.mono s
    walk_at "rw"
    refine W.c_full O hw' hf (by decide) fun u ι₂ s₂ => ?_
    walk_at "rw"
    have hw2 := hw'.mono s₂
    refine W.w_place O hw2 (by decide) fun p ι'' s' => ?_
    walk_at "rw"
    refine W.new_Op_p O (by decide) fun v ι₃ s₃ I => ?_
    exact Ends.ret (Sub.trans s (Sub.trans s₂ (Sub.trans s' s₃))) ⟨⟨_, _, I⟩, h'⟩
  | tick w1 w2 w3 hf =>
    refine oAA sg.head fun e1 hi1 sg1 => ?_
    refine oAA sg1.head fun e2 hi2 sg2 => ?_
    refine oAA sg2.head fun e3 hi3 _ => ?_
    subst e1 e2 e3
    walk_at "rw"
    refine W.c_next O h ok hi1 (by decide) fun ι' μ' s h' => ?_
    have w1' := w1.mono s
    have w2' := w2.mono s
    have ok' := ok.mono s
    walk_at "rw"
    refine W.c_want O h' ok' w2' hi2 (.inl rfl) [] (.inr ⟨rfl, rfl⟩) (by decide) fun ι₂ μ₂ s₂ h₂ => ?_
    have w3' := w3.mono (Sub.trans s s₂)
    have ok₂ := ok'.mono s₂
    walk_at "rw"
    refine W.c_want O h₂ ok₂ w3' hi3 (.inr ⟨_, rfl⟩) [_] (.inl rfl) (by decide) fun ι₃ μ₃ s₃ h₃ => ?_
    have w2'' := w2'.mono (Sub.trans s₂ s₃)
    walk_at "rw"
    refine W.c_full O w2'' hf (by decide) fun u ι₄ s₄ => ?_
    walk_at "rw"
    have w1'' := w1'.mono (Sub.trans s₂ (Sub.trans s₃ s₄))
    refine W.w_place O w1'' (by decide) fun p ι₅ s₅ => ?_
    walk_at "rw"
    refine W.new_Op_p O (by decide) fun v ι₆ s₆ I => ?_
    exact Ends.ret (Sub.trans s (Sub.trans s₂ (Sub.trans s₃ (Sub.trans s₄ (Sub.trans s₅ s₆))))) ⟨⟨_, _, I⟩, h₃⟩
open PyProof.Rows.LCg
noncomputable def F2 {β : Type} (P : β → Value → Led → Prop) (ι : Led) : List β → List Value → Prop
  | [], [] => True
  | u :: us, y :: ys => P u y ι ∧ F2 P ι us ys
  | _, _ => False
theorem F2.mono {β : Type} {P : β → Value → Led → Prop} (hP : ∀ u y ι ι', Sub ι ι' → P u y ι → P u y ι') {ι ι' : Led} (s : Sub ι ι') : ∀ {us : List β} {ys : List Value}, F2 P ι us ys → F2 P ι' us ys
  | [], [], _ => trivial
  | _ :: _, _ :: _, h => ⟨hP _ _ _ _ s h.1, F2.mono hP s h.2⟩
  | [], _ :: _, h => h.elim
  | _ :: _, [], h => h.elim
theorem F2.snoc {β : Type} {P : β → Value → Led → Prop} {ι : Led} {u : β} {y : Value} (p : P u y ι) : ∀ {us : List β} {ys : List Value}, F2 P ι us ys → F2 P ι (us ++ [u]) (ys ++ [y])
  | [], [], _ => ⟨p, trivial⟩
  | _ :: _, _ :: _, h => ⟨h.1, F2.snoc p h.2⟩
  | [], _ :: _, h => h.elim
  | _ :: _, [], h => h.elim
theorem off1_mem {D : Addr} : ∀ {l : Led}, Off1 D l → ∀ p ∈ l, p.1 ≠ D
  | [], _, p, hp => by cases hp
  | r :: l, x, p, hp => by
    rcases List.mem_cons.mp hp with rfl | hp
    · exact x.1
    · exact off1_mem x.2 p hp
theorem Apart.cons {μ ι : Led} {p : Addr × Obj} (a : Apart μ ι) (off : ∀ q ∈ μ ++ ι, q.1 ≠ p.1) : Apart (p :: μ) ι := Apart.insert (own := []) a off
theorem Apart.tail {μ ι : Led} {p : Addr × Obj} (a : Apart (p :: μ) ι) : Apart μ ι := by
  have f := Apart.freeze (μ₁ := []) a
  exact ⟨f.1, fun q hq r hr => f.2 q hq r (.tail _ hr)⟩
section
variable {c : Cx} {sc scope : Scope} {m : Lc} {μ ι ρ : Led} {k : Nat}
def EltOk (c : Cx) (sc scope : Scope) (mf : Str → Option Value) (elt : Expr) (x : Str) (P : Value → Led → Prop) (u : Value) (ι : Led) : Prop :=
  ∀ ι₁, Sub ι ι₁ → ∀ (μ₁ : Led) C oC m₂ h tk, (C, oC) ∈ μ₁ → NsObj oC m₂ → m₂ x = some u → StF c mf μ₁ ι₁ h →
    wpAny (model c.prog c.w) c.A (eval elt (compEnvC scope [] C (c.env sc))) (fun y s' => ∃ h' tk' ι', s' = c.sh h' tk' ∧ StF c mf μ₁ ι' h' ∧ Sub ι₁ ι' ∧ P y ι') bad (c.sh h tk)
theorem compRest {elt : Expr} {x : Str} {β : Type} {us : List β} {val : β → Value} {P : β → Value → Led → Prop} {mf : Str → Option Value} {ax : Addr} {o : Obj} {hp : Heap} {tk : Nat} {Fin : List Value → List (Addr × Obj) → Prop}
    (hP : ∀ u y ι ι', Sub ι ι' → P u y ι → P u y ι') (hE : ∀ u ∈ us, EltOk c sc scope mf elt x (P u) (val u) ι) (hax : (ax, o) ∈ ι) (ho : LObj o (us.map val))
    (next : ∀ ys ι', Sub ι ι' → F2 P ι' us ys → Apart μ ι' → Fin ys (μ ++ ι')) :
    ∀ k i ys ι₁, i + k = us.length → Sub ι ι₁ → Apart μ ι₁ → F2 P ι₁ (us.take i) ys →
      CompRest c.prog c.w c.A c.g c.L mf (c.env sc) elt x scope [] (c.sh hp tk) (SrcAt c.g ax (us.map val).toArray) (fun i v => (us.map val).toArray[i]? = some v) Fin k i ys (μ ++ ι₁)
  | 0, i, ys, ι₁, e, s, a, f => .zero (next ys ι₁ s (by rw [Nat.add_zero] at e; rw [e, List.take_length] at f; exact f) a)
  | k + 1, i, ys, ι₁, e, s, a, f => .succ fun v I oI C oC D m₂ h tk' E' hv hC hx F N off ne => by
    obtain ⟨b, hv', rfl⟩ : ∃ b, us[i]? = some b ∧ val b = v := by simpa using hv
    have off' := off.mem
    have aD : Apart ((D, lst ys) :: μ) ι₁ := a.cons fun q hq => (off' q hq).2.2
    have aC : Apart ((C, oC) :: (D, lst ys) :: μ) ι₁ := aD.cons fun q hq => by
      rcases List.mem_cons.mp hq with rfl | hq
      · exact Ne.symm ne.2.2
      · exact (off' q hq).2.1
    have aI : Apart ((I, oI) :: (C, oC) :: (D, lst ys) :: μ) ι₁ := aC.cons fun q hq => by
      rcases List.mem_cons.mp hq with rfl | hq
      · exact Ne.symm ne.1
      rcases List.mem_cons.mp hq with rfl | hq
      · exact Ne.symm ne.2.1
      · exact (off' q hq).1
    have S : StF c mf ((I, oI) :: (C, oC) :: (D, lst ys) :: μ) ι₁ h := ⟨F, N, aI⟩
    refine wpAny_mono (hE b (List.mem_of_getElem? hv') ι₁ s _ C oC m₂ h tk' (.tail _ (.head _)) hC hx S) (fun y s' q => ?_) fun _ _ x => x.elim
    refine oEEEAAA q ?_; clear q; intro h' tk₂ ι' zo3 S' s' p; obtain rfl := zo3
    have d1 := S'.D
    have d2 := d1.tail
    have d3 := d2.tail
    refine CompEnd.intro (s₁ := c.sh h tk') S'.F S'.N (μ ++ ι') (fun p hp => hp) (Off3.of fun q hq => ⟨?_, ?_, ?_⟩) (.inr ⟨o, List.mem_append.mpr (.inr (s' _ (s _ hax))), ho.1, ho.2⟩) (compRest hP hE hax ho next k (i + 1) (ys ++ [y]) ι' (by walk_at "o") (Sub.trans s s') d3.tail ?_)
    · rcases List.mem_append.mp hq with hq | hq
      · exact (Apart.freeze (μ₁ := []) d1).2 q (.tail _ (.tail _ hq)) (I, oI) (.head _)
      · exact fun e => d1.2 (I, oI) (.head _) q hq e.symm
    · rcases List.mem_append.mp hq with hq | hq
      · exact (Apart.freeze (μ₁ := []) d2).2 q (.tail _ hq) (C, oC) (.head _)
      · exact fun e => d2.2 (C, oC) (.head _) q hq e.symm
    · rcases List.mem_append.mp hq with hq | hq
      · exact (Apart.freeze (μ₁ := []) d3).2 q hq (D, lst ys) (.head _)
      · exact fun e => d3.2 (D, lst ys) (.head _) q hq e.symm
    · rw [List.take_add_one, hv']
      exact F2.snoc p (F2.mono hP s' f)
def IterOk (c : Cx) (sc : Scope) (m : Lc) (μ ι : Led) (iter : Expr) (v : Value) : Prop :=
  ∀ (mf : Str → Option Value) (h : Heap) (tk : Nat) (Q : Value → Shared → Prop), StF c mf μ ι h → (∀ x v, At x v m → mf x = some v) → (∀ tk', Q v (c.sh h tk')) → wpAny (model c.prog c.w) c.A (eval iter (c.env sc)) Q c.E (c.sh h tk)
theorem IterOk.name {x : Str} {pos : Pos} {v : Value} (a : At x v m) (hk : sc.kind = .function := by with_unfolding_all rfl) (hx : sc.names.lookup x = some .local := by kernel_rfl) (hd : (x == ("__debug__" : Str)) = false := by kernel_rfl) : IterOk c sc m μ ι (.Name x pos) v :=
  fun mf h tk Q S hm q => nameX_L (cl := []) S.F (hm _ _ a) (q tk) hk hx hd
theorem IterOk.fld {x nm : Str} {xp pos : Pos} {v u : Value} {C : Addr} {fs : Lc} (O : c.Ok sc k) (a : At x v m) (I : InstF ι v C fs) (b : At nm u fs) (ok : FieldF C nm) (hh : handedIn u = true) (hk : sc.kind = .function := by with_unfolding_all rfl) (hx : sc.names.lookup x = some .local := by kernel_rfl) (hd : (x == ("__debug__" : Str)) = false := by kernel_rfl) :
    IterOk c sc m μ ι (.Attribute (.Name x xp) nm pos) u := fun mf h tk Q S hm q => by
  refine oEEEEAAA I.ex fun y dx es n zo4 h1 h2 f => ?_; obtain rfl := zo4
  refine oEA ok.attr.ex fun K X ok => ?_
  refine oAAEA (attrOk.parts (ok c.w.params)) fun o1 o2 b' o3 o4 => ?_
  exact Attribute_name (nameX_L (cl := []) S.F (hm _ _ a) (get_own S.F (X _ _ O.inK) (InstAt.of_news S.N (List.mem_append.mpr (.inr h1)) (List.mem_append.mpr (.inr h2))) o1 o2 o3 o4 (by rw [f nm, b.lookup]) hh (q _)) hk hx hd)
theorem W.comp {elt iter : Expr} {x : Str} {px : Pos} {pos : Pos} {v : Value} {β : Type} {us : List β} {val : β → Value} (P : β → Value → Led → Prop) {Q : Po Value} (O : c.Ok sc k) (hP : ∀ u y ι ι', Sub ι ι' → P u y ι → P u y ι') (hsz : us.length ≤ sizeLine)
    (hi : IterOk c sc m μ ι iter v) (hl : ListF ι v (us.map val)) (hE : ∀ mf, ∀ u ∈ us, EltOk c sc scope mf elt x (P u) (val u) ι) (q : ∀ ys v' ι', Sub ι ι' → ListF ι' v' ys → F2 P ι' us ys → Q v' m μ ι')
    (hclos : closureFor scope (c.env sc) = pure [] := by with_unfolding_all rfl) (hcell : (scope.names.all fun y => decide (y.2 ≠ .cell)) = true := by kernel_rfl) (hkind : scope.kind = .function := by with_unfolding_all rfl)
    (hnames : (scope.names.all fun y => decide (y.2 = .local → scope.names.lookup y.1 = some .local)) = true := by kernel_rfl) (hx : scope.names.lookup x = some .local := by kernel_rfl)
    (hs : ∀ v, foldedSetIterable iter (c.env sc) v = pure v := by intro _; rfl) :
    c.W (eval (.ListComp elt [⟨.Name x px, iter, [], 0⟩] scope pos) (c.env sc)) Q m μ ι := .mk fun hp tk S => by
  refine oEA S.F fun mf F hm => ?_
  refine oEEAA hl.ex fun ax o zo2 hax ho => ?_; obtain rfl := zo2
  refine ListComp_U (s := c.sh hp tk) (cl := []) F hclos (fun y hy => of_decide_eq_true (List.all_eq_true.mp hcell y hy)) hkind (fun y hy => of_decide_eq_true (List.all_eq_true.mp hnames y hy)) hx ?_ hs
  refine hi mf hp tk _ ⟨F, S.N, S.D⟩ hm fun tk' => .inl ⟨ax, (us.map val).toArray, μ ++ ι, rfl, O.handled, F, S.N, .inr ⟨o, List.mem_append.mpr (.inr hax), ho.1, ho.2⟩, by simpa using hsz, fun s₂ hs₂ => ?_⟩
  obtain ⟨g, rfl⟩ := hs₂
  have z := compRest (μ := μ) (hp := g) (tk := tk') (Fin := FinE c.g c.L mf (c.sh g tk') (c.ans Q)) hP (hE mf) hax ho (fun ys ι' s f a => fun D h tk'' F' N' off => ?_) us.length 0 [] ι (by simp) Sub.refl S.D (by simp [F2])
  · simpa using z
  · have z : St c m μ ((D, lst ys) :: ι') h := by
      refine ⟨⟨mf, F', hm⟩, fun p hp => N' p (by simp only [List.mem_append, List.mem_cons] at hp ⊢; rcases hp with a | a | a <;> simp [a]), ?_⟩
      refine ⟨a.1, fun q hq r hr => ?_⟩
      rcases List.mem_cons.mp hr with rfl | hr
      · exact off1_mem off q (List.mem_append.mpr (.inl hq))
      · exact a.2 q hq r hr
    exact z.same (q ys _ _ (Sub.trans s Sub.cons) ⟨D, _, rfl, .head _, rfl, _, rfl⟩ (F2.mono hP Sub.cons f))
theorem EltOk.meth {p1 p2 p3 : Pos} {mf : Str → Option Value} {P : Value → Led → Prop} {u : Value} {C f : Addr} {fs : Lc} {j : Nat} (O : c.Ok sc k) (hj : j ≤ k) (I : InstF ι u C fs) (hn : nowhere s_row fs = true) (ok : MethF C s_row f) (kf : KeepF (.ref f))
    (sp : ∀ ι', Sub ι ι' → Spec j f [u] [] ι' (fun r μ' ι'' => P r ι'' ∧ μ' = []))
    (hk : (relabel scope (c.env sc)).kind = .function := by with_unfolding_all rfl) (hx : (relabel scope (c.env sc)).names.lookup s_node = some .local := by with_unfolding_all rfl) (hd : (s_node == ("__debug__" : Str)) = false := by kernel_rfl) {pl : Addr → Sem Bool}
    (he : ∀ C', eval (.Call (.Attribute (.Name s_node p1) s_row p2) [] [] p3) (compEnvC scope [] C' (c.env sc)) = (do
      let ov ← eval (.Name s_node p1) (compEnvC scope [] C' (c.env sc))
      standAt p2.atName
      let (f, first) ← holding [ov] (getMethod ov s_row (pl C'))
      callWith p3 f first (backTo p3 (starEach [] (compEnvC scope [] C' (c.env sc)))) []) := by intro _; rfl) :
    EltOk c sc scope mf (.Call (.Attribute (.Name s_node p1) s_row p2) [] [] p3) s_node P u ι := fun ι₁ s μ₁ C' oC m₂ h tk hm hC hx' S => by
  refine MethodCall_ (LCgL.ld_own S.N (List.mem_append.mpr (.inl hm)) hC hx' ?_ hk hx hd) (he C')
  refine oEEEEAAA I.ex fun y dx es n zo4 h1 h2 g => ?_; obtain rfl := zo4
  refine oEA ok.ex fun K X ok => ?_
  refine oAA (methOk.parts (ok c.w.params)) fun o1 o2 o3 => ?_
  refine method_inst S.F (X _ _ O.inK) (InstAt.of_news S.N (List.mem_append.mpr (.inr (s _ h1))) (List.mem_append.mpr (.inr (s _ h2)))) o1 o2 o3 (by rw [g s_row, nowhere.lookup hn]) ?_
  refine oEA kf.ex fun K' X' kf => ?_
  refine callWith_K0 (X' _ _ (TH.keeps S.F.keep O.inK)) (kf _) (wpAny_call ?_)
  exact (sp ι₁ s).run c sc (O.less hj) mf μ₁ _ h tk S fun r h' tk' μ' ι' S' s' R => by
    obtain ⟨p, rfl⟩ := R
    exact ⟨h', tk', ι', rfl, S', s', p⟩
theorem EltOk.fun_ {x fn : Str} {p1 p2 p3 : Pos} {mf : Str → Option Value} {P : Value → Led → Prop} {u : Value} {f : Addr} {j : Nat} (O : c.Ok sc k) (hj : j ≤ k) (gf : GlobF fn (.ref f)) (kf : KeepF (.ref f))
    (sp : ∀ ι', Sub ι ι' → Spec j f [u] [] ι' (fun r μ' ι'' => P r ι'' ∧ μ' = []))
    (hk : (relabel scope (c.env sc)).kind = .function := by with_unfolding_all rfl) (hx : (relabel scope (c.env sc)).names.lookup x = some .local := by with_unfolding_all rfl) (hf : (relabel scope (c.env sc)).names.lookup fn = some .globalImplicit := by with_unfolding_all rfl) (hd : (x == ("__debug__" : Str)) = false := by kernel_rfl) (hdf : (fn == ("__debug__" : Str)) = false := by kernel_rfl)
    (he : ∀ C', eval (.Call (.Name fn p1) [.Name x p2] [] p3) (compEnvC scope [] C' (c.env sc)) = (do callWith p3 (← eval (.Name fn p1) (compEnvC scope [] C' (c.env sc))) [] (backTo p3 (starEach [.Name x p2] (compEnvC scope [] C' (c.env sc)))) (backToKw p3 (keywordEach [] (compEnvC scope [] C' (c.env sc))))) := by intro _; rfl) :
    EltOk c sc scope mf (.Call (.Name fn p1) [.Name x p2] [] p3) x P u ι := fun ι₁ s μ₁ C' oC m₂ h tk hm hC hx' S => by
  refine oEA gf.ex fun K X gf => ?_
  refine Call_ (LCgL.ld_global S.F (X _ _ O.inK) O.top (gf _) ?_ rfl hk hf hdf) (he C')
  refine oEA kf.ex fun K' X' kf => ?_
  refine callWith_K (X' _ _ O.inK) (kf _) (args_cons (LCgL.ld_own S.N (List.mem_append.mpr (.inl hm)) hC hx' (args_nil ⟨X' _ _ (TH.keeps S.F.keep O.inK), wpAny_call ?_⟩) hk hx hd) rfl)
  exact (sp ι₁ s).run c sc (O.less hj) mf μ₁ _ h tk S fun r h' tk' μ' ι' S' s' R => by
    obtain ⟨p, rfl⟩ := R
    exact ⟨h', tk', ι', rfl, S', s', p⟩
end
structure HasRow (K : Nat) (ι : Led) (v : Value) (x : PyData) : Prop where
  ex : ∃ C f fs, InstF ι v C fs ∧ nowhere s_row fs = true ∧ MethF C s_row f ∧ KeepF (.ref f) ∧ ∀ ι', Sub ι ι' → Spec K f [v] [] ι' (fun r μ' ι'' => RowV ι'' r x ∧ μ' = [])
theorem HasRow.mono {K : Nat} {ι ι' : Led} {v : Value} {x : PyData} (h : HasRow K ι v x) (s : Sub ι ι') : HasRow K ι' v x := by
  refine oEEEAAAA h.ex fun C f fs I a b d e => ?_
  exact ⟨C, f, fs, I.mono s, a, b, d, fun ι₂ s₂ => e ι₂ (Sub.trans s s₂)⟩
theorem HasRow.more {K J : Nat} {ι : Led} {v : Value} {x : PyData} (h : HasRow K ι v x) (k : K ≤ J) : HasRow J ι v x := by
  refine oEEEAAAA h.ex fun C f fs I a b d e => ?_
  exact ⟨C, f, fs, I, a, b, d, fun ι₂ s₂ => (e ι₂ s₂).more k fun _ _ _ _ z => z⟩
theorem HasRow.href {K : Nat} {ι : Led} {v : Value} {x : PyData} (h : HasRow K ι v x) : handedIn v = true := by
  refine oEEEA h.ex fun C f fs I _ => ?_
  refine oEEEEA I.ex fun y _ _ _ zo4 _ => ?_; obtain rfl := zo4
  rfl
theorem ListF.href {ι : Led} {v : Value} {vs : List Value} (h : ListF ι v vs) : handedIn v = true := by refine oEEA h.ex fun y _ zo2 _ => ?_; obtain rfl := zo2; rfl
theorem W.c_row {c : Cx} {sc : Scope} {m : Lc} {μ ι : Led} {k K : Nat} {v : Value} {x : PyData} {pl : Sem Bool} {Q : Po Value} (O : c.Ok sc k) (h : HasRow K ι v x) (hk : K ≤ k) (pos : Pos) (q : ∀ r ι', Sub ι ι' → RowV ι' r x → Q r m μ ι') :
    c.W (getMethod v s_row pl) (fun fx => c.W (callWith pos fx.1 fx.2 (backTo pos (starEach [] (c.env sc))) []) Q) m μ ι := by
  refine oEEEAAAA h.ex fun C f fs I a b d e => ?_
  refine W.meth_ O I a b (W.with0 O d ?_)
  exact W.callS (μ := []) (e ι Sub.refl) O hk fun r μ' ι' s g => by obtain ⟨z, rfl⟩ := g; exact q r ι' s z
theorem rows_of {K : Nat} {ι : Led} {v : Value} {us : List (Value × PyData)} (hl : ListF ι v (us.map (·.1))) (hr : ∀ p ∈ us, HasRow K ι p.1 p.2) (hsz : us.length ≤ sizeLine) : Spec (K + 1) 183 [v] [] ι (fun r μ' ι' => RowV ι' r (.tuple (us.map (·.2))) ∧ μ' = []) := by
  refine' Spec.intro (k := K) (loc := [(s_nodes, v)]) hd.z183 hd.z182 ?ho ?hob ?hco' ?hcd ?hbind ?hloc ?hco ?hgen ?hk ?hcell ?hb
  walk_at "M.fn"
  intro c ρ O
  walk_at "rw"
  refine W.comp (fun (p : Value × PyData) y ι => RowV ι y p.2) (us := us) (val := (·.1)) O (fun u y ι ι' s z => z.mono s) hsz (IterOk.name (by walk_at "M.at")) hl (fun mf p hp => ?_) fun ys v' ι' s hl' f => ?_
  · refine oEEEAAAA ((hr p hp).ex) fun C f fs I a b d e => ?_
    exact EltOk.meth O (Nat.le_refl _) I a b d e
  walk_at "rw"
  have rs : ∀ {us : List (Value × PyData)} {ys : List Value}, F2 (fun (p : Value × PyData) y ι => RowV ι y p.2) ι' us ys → RowVs ι' ys (us.map (·.2)) := fun {us} => by
    induction us with
    | nil => intro ys h; cases ys with
      | nil => exact .nil
      | cons _ _ => exact h.elim
    | cons p us ih => intro ys h; cases ys with
      | nil => exact h.elim
      | cons y ys => exact .cons h.1 (ih h.2)
  have hlen : ys.length = us.length := by
    have : ∀ {us : List (Value × PyData)} {ys : List Value}, F2 (fun (p : Value × PyData) y ι => RowV ι y p.2) ι' us ys → ys.length = us.length := fun {us} => by
      induction us with
      | nil => intro ys h; cases ys with
        | nil => rfl
        | cons _ _ => exact h.elim
      | cons p us ih => intro ys h; cases ys with
        | nil => exact h.elim
        | cons y ys => simp [ih h.2]
    exact this f
  refine W.tupleOf_ hl' (by walk_at "o") fun t ι₂ s₂ ht => ?_
  exact Ends.ret (Sub.trans s s₂) ⟨.tupF ht ((rs f).mono s₂), rfl⟩
theorem W.c_rows {c : Cx} {sc : Scope} {m : Lc} {μ ι : Led} {k K : Nat} {v : Value} {us : List (Value × PyData)} {Q : Po Value} (O : c.Ok sc k) (hl : ListF ι v (us.map (·.1))) (hr : ∀ p ∈ us, HasRow K ι p.1 p.2) (hsz : us.length ≤ sizeLine) (hk : K + 1 ≤ k)
    (q : ∀ r ι', Sub ι ι' → RowV ι' r (.tuple (us.map (·.2))) → Q r m μ ι') : c.W (PySem.call (.ref 183) [v]) Q m μ ι :=
  W.callS (μ := []) (rows_of hl hr hsz) O hk fun r μ' ι' s g => by obtain ⟨z, rfl⟩ := g; exact q r ι' s z
theorem row_PVar {ι : Led} {v : Value} {n : Str} {t : Tok} {p : Value} (I : InstF ι v 479 [(s_name, .str n t), (s_place, p)]) : HasRow 1 ι v (.tuple [.str s_pvar, .str n]) := by
  refine ⟨_, _, _, I, by kernel_rfl!, (mF .PVar_row), (kF .PVar_row), fun ι' s => ?_⟩
  have I' := I.mono s
  refine' Spec.intro (k := 0) (loc := [(s_self, v)]) hd.z476 hd.z475 ?ho ?hob ?hco' ?hcd ?hbind ?hloc ?hco ?hgen ?hk ?hcell ?hb
  walk_at "M.fn"
  intro c ρ O
  walk_at "rw"
  refine W.tup_ (by walk_at "M.sz") fun t ι₃ s₃ ht => ?_
  exact Ends.ret s₃ ⟨.tupF ht (.cons (.str _ _) (.cons (.str _ _) .nil)), rfl⟩
theorem row_PWild {ι : Led} {v : Value} {p : Value} (I : InstF ι v 506 [(s_place, p)]) : HasRow 1 ι v (.tuple [.str s_pwild]) := by
  refine ⟨_, _, _, I, by kernel_rfl!, (mF .PWild_row), (kF .PWild_row), fun ι' s => ?_⟩
  have I' := I.mono s
  refine' Spec.intro (k := 0) (loc := [(s_self, v)]) hd.z503 hd.z502 ?ho ?hob ?hco' ?hcd ?hbind ?hloc ?hco ?hgen ?hk ?hcell ?hb
  walk_at "M.fn"
  intro c ρ O
  walk_at "rw"
  refine W.tup_ (by walk_at "M.sz") fun t ι₃ s₃ ht => ?_
  exact Ends.ret s₃ ⟨.tupF ht (.cons (.str _ _) .nil), rfl⟩
theorem row_PLit {ι : Led} {v : Value} {n : Str} {i : Int} {t u : Tok} {p : Value} (I : InstF ι v 533 [(s_value, .int i u), (s_kind, .str n t), (s_place, p)]) : HasRow 1 ι v (.tuple [.str s_plit, .str n, .int i]) := by
  refine ⟨_, _, _, I, by kernel_rfl!, (mF .PLit_row), (kF .PLit_row), fun ι' s => ?_⟩
  have I' := I.mono s
  refine' Spec.intro (k := 0) (loc := [(s_self, v)]) hd.z530 hd.z529 ?ho ?hob ?hco' ?hcd ?hbind ?hloc ?hco ?hgen ?hk ?hcell ?hb
  walk_at "M.fn"
  intro c ρ O
  walk_at "rw"
  refine W.tup_ (by walk_at "M.sz") fun t ι₃ s₃ ht => ?_
  exact Ends.ret s₃ ⟨.tupF ht (.cons (.str _ _) (.cons (.str _ _) (.cons (.int _ _) .nil))), rfl⟩
theorem row_Op {ι : Led} {v : Value} {n : Str} {b : Bool} {t : Tok} {p : Value} (I : InstF ι v 344 [(s_is_con, .bool b), (s_name, .str n t), (s_place, p)]) : HasRow 1 ι v (.tuple [.str s_op, .str n, .bool b]) := by
  refine ⟨_, _, _, I, by kernel_rfl!, (mF .Op_row), (kF .Op_row), fun ι' s => ?_⟩
  have I' := I.mono s
  refine' Spec.intro (k := 0) (loc := [(s_self, v)]) hd.z341 hd.z340 ?ho ?hob ?hco' ?hcd ?hbind ?hloc ?hco ?hgen ?hk ?hcell ?hb
  walk_at "M.fn"
  intro c ρ O
  walk_at "rw"
  refine W.tup_ (by walk_at "M.sz") fun t ι₃ s₃ ht => ?_
  exact Ends.ret s₃ ⟨.tupF ht (.cons (.str _ _) (.cons (.str _ _) (.cons (.bool _) .nil))), rfl⟩
theorem row_PLazy {ι : Led} {v : Value} {q : Value} {x : PyData} {K : Nat} {p : Value} (I : InstF ι v 668 [(s_pattern, q), (s_place, p)]) (hq : HasRow K ι q x) : HasRow (K + 1) ι v (.tuple [.str s_plazy, x]) := by
  refine ⟨_, _, _, I, by kernel_rfl!, (mF .PLazy_row), (kF .PLazy_row), fun ι' s => ?_⟩
  have I' := I.mono s
  have hq' := hq.mono s
  have hh := hq.href
  refine' Spec.intro (k := K) (loc := [(s_self, v)]) hd.z665 hd.z664 ?ho ?hob ?hco' ?hcd ?hbind ?hloc ?hco ?hgen ?hk ?hcell ?hb
  walk_at "M.fn"
  intro c ρ O
  walk_at "rw"
  refine W.fld_ O I' (by walk_at "M.at") (fF .PLazy_pattern) ?_ hh
  refine W.c_row O hq' (Nat.le_refl _) _ fun r ι₂ s₂ hr => ?_
  walk_at "rw"
  refine W.tup_ (by walk_at "M.sz") fun t ι₃ s₃ ht => ?_
  exact Ends.ret (Sub.trans s₂ s₃) ⟨.tupF ht (.cons (.str _ _) (.cons (hr.mono s₃) .nil)), rfl⟩
theorem row_PBang {ι : Led} {v : Value} {q : Value} {x : PyData} {K : Nat} {p : Value} (I : InstF ι v 695 [(s_pattern, q), (s_place, p)]) (hq : HasRow K ι q x) : HasRow (K + 1) ι v (.tuple [.str s_pbang, x]) := by
  refine ⟨_, _, _, I, by kernel_rfl!, (mF .PBang_row), (kF .PBang_row), fun ι' s => ?_⟩
  have I' := I.mono s
  have hq' := hq.mono s
  have hh := hq.href
  refine' Spec.intro (k := K) (loc := [(s_self, v)]) hd.z692 hd.z691 ?ho ?hob ?hco' ?hcd ?hbind ?hloc ?hco ?hgen ?hk ?hcell ?hb
  walk_at "M.fn"
  intro c ρ O
  walk_at "rw"
  refine W.fld_ O I' (by walk_at "M.at") (fF .PBang_pattern) ?_ hh
  refine W.c_row O hq' (Nat.le_refl _) _ fun r ι₂ s₂ hr => ?_
  walk_at "rw"
  refine W.tup_ (by walk_at "M.sz") fun t ι₃ s₃ ht => ?_
  exact Ends.ret (Sub.trans s₂ s₃) ⟨.tupF ht (.cons (.str _ _) (.cons (hr.mono s₃) .nil)), rfl⟩
theorem row_PParen {ι : Led} {v : Value} {q : Value} {x : PyData} {K : Nat} {p : Value} (I : InstF ι v 749 [(s_pattern, q), (s_place, p)]) (hq : HasRow K ι q x) : HasRow (K + 1) ι v (.tuple [.str s_pparen, x]) := by
  refine ⟨_, _, _, I, by kernel_rfl!, (mF .PParen_row), (kF .PParen_row), fun ι' s => ?_⟩
  have I' := I.mono s
  have hq' := hq.mono s
  have hh := hq.href
  refine' Spec.intro (k := K) (loc := [(s_self, v)]) hd.z746 hd.z745 ?ho ?hob ?hco' ?hcd ?hbind ?hloc ?hco ?hgen ?hk ?hcell ?hb
  walk_at "M.fn"
  intro c ρ O
  walk_at "rw"
  refine W.fld_ O I' (by walk_at "M.at") (fF .PParen_pattern) ?_ hh
  refine W.c_row O hq' (Nat.le_refl _) _ fun r ι₂ s₂ hr => ?_
  walk_at "rw"
  refine W.tup_ (by walk_at "M.sz") fun t ι₃ s₃ ht => ?_
  exact Ends.ret (Sub.trans s₂ s₃) ⟨.tupF ht (.cons (.str _ _) (.cons (hr.mono s₃) .nil)), rfl⟩
theorem row_PAs {ι : Led} {v : Value} {n : Str} {t : Tok} {q : Value} {x : PyData} {K : Nat} {p : Value} (I : InstF ι v 641 [(s_pattern, q), (s_name, .str n t), (s_place, p)]) (hq : HasRow K ι q x) : HasRow (K + 1) ι v (.tuple [.str s_pas, .str n, x]) := by
  refine ⟨_, _, _, I, by kernel_rfl!, (mF .PAs_row), (kF .PAs_row), fun ι' s => ?_⟩
  have I' := I.mono s
  have hq' := hq.mono s
  have hh := hq.href
  refine' Spec.intro (k := K) (loc := [(s_self, v)]) hd.z638 hd.z637 ?ho ?hob ?hco' ?hcd ?hbind ?hloc ?hco ?hgen ?hk ?hcell ?hb
  walk_at "M.fn"
  intro c ρ O
  walk_at "rw"
  refine W.fld_ O I' (by walk_at "M.at") (fF .PAs_pattern) ?_ hh
  refine W.c_row O hq' (Nat.le_refl _) _ fun r ι₂ s₂ hr => ?_
  walk_at "rw"
  refine W.tup_ (by walk_at "M.sz") fun t ι₃ s₃ ht => ?_
  exact Ends.ret (Sub.trans s₂ s₃) ⟨.tupF ht (.cons (.str _ _) (.cons (.str _ _) (.cons (hr.mono s₃) .nil))), rfl⟩
theorem row_PTuple {ι : Led} {v : Value} {q : Value} {us : List (Value × PyData)} {K : Nat} {p : Value} (I : InstF ι v 587 [(s_items, q), (s_place, p)]) (hl : ListF ι q (us.map (·.1))) (hr : ∀ p ∈ us, HasRow K ι p.1 p.2) (hsz : us.length ≤ sizeLine) : HasRow (K + 2) ι v (.tuple [.str s_ptuple, .tuple (us.map (·.2))]) := by
  refine ⟨_, _, _, I, by kernel_rfl!, (mF .PTuple_row), (kF .PTuple_row), fun ι' s => ?_⟩
  have I' := I.mono s
  have hh := hl.href
  refine' Spec.intro (k := (K + 1)) (loc := [(s_self, v)]) hd.z584 hd.z583 ?ho ?hob ?hco' ?hcd ?hbind ?hloc ?hco ?hgen ?hk ?hcell ?hb
  walk_at "M.fn"
  intro c ρ O
  walk_at "rw"
  refine W.fld_ O I' (by walk_at "M.at") (fF .PTuple_items) ?_ hh
  walk_at "rw"
  refine W.c_rows O (hl.mono s) (fun p hp => (hr p hp).mono s) hsz (Nat.le_refl _) fun r ι₂ s₂ hr => ?_
  walk_at "rw"
  refine W.tup_ (by walk_at "M.sz") fun t ι₃ s₃ ht => ?_
  exact Ends.ret (Sub.trans s₂ s₃) ⟨.tupF ht (.cons (.str _ _) (.cons (hr.mono s₃) .nil)), rfl⟩
theorem row_PList {ι : Led} {v : Value} {q : Value} {us : List (Value × PyData)} {K : Nat} {p : Value} (I : InstF ι v 614 [(s_items, q), (s_place, p)]) (hl : ListF ι q (us.map (·.1))) (hr : ∀ p ∈ us, HasRow K ι p.1 p.2) (hsz : us.length ≤ sizeLine) : HasRow (K + 2) ι v (.tuple [.str s_plist, .tuple (us.map (·.2))]) := by
  refine ⟨_, _, _, I, by kernel_rfl!, (mF .PList_row), (kF .PList_row), fun ι' s => ?_⟩
  have I' := I.mono s
  have hh := hl.href
  refine' Spec.intro (k := (K + 1)) (loc := [(s_self, v)]) hd.z611 hd.z610 ?ho ?hob ?hco' ?hcd ?hbind ?hloc ?hco ?hgen ?hk ?hcell ?hb
  walk_at "M.fn"
  intro c ρ O
  walk_at "rw"
  refine W.fld_ O I' (by walk_at "M.at") (fF .PList_items) ?_ hh
  walk_at "rw"
  refine W.c_rows O (hl.mono s) (fun p hp => (hr p hp).mono s) hsz (Nat.le_refl _) fun r ι₂ s₂ hr => ?_
  walk_at "rw"
  refine W.tup_ (by walk_at "M.sz") fun t ι₃ s₃ ht => ?_
  exact Ends.ret (Sub.trans s₂ s₃) ⟨.tupF ht (.cons (.str _ _) (.cons (hr.mono s₃) .nil)), rfl⟩
theorem row_PInfix {ι : Led} {v : Value} {q : Value} {us : List (Value × PyData)} {K : Nat} {p : Value} (I : InstF ι v 722 [(s_items, q), (s_place, p)]) (hl : ListF ι q (us.map (·.1))) (hr : ∀ p ∈ us, HasRow K ι p.1 p.2) (hsz : us.length ≤ sizeLine) : HasRow (K + 2) ι v (.tuple [.str s_pinfix, .tuple (us.map (·.2))]) := by
  refine ⟨_, _, _, I, by kernel_rfl!, (mF .PInfix_row), (kF .PInfix_row), fun ι' s => ?_⟩
  have I' := I.mono s
  have hh := hl.href
  refine' Spec.intro (k := (K + 1)) (loc := [(s_self, v)]) hd.z719 hd.z718 ?ho ?hob ?hco' ?hcd ?hbind ?hloc ?hco ?hgen ?hk ?hcell ?hb
  walk_at "M.fn"
  intro c ρ O
  walk_at "rw"
  refine W.fld_ O I' (by walk_at "M.at") (fF .PInfix_items) ?_ hh
  walk_at "rw"
  refine W.c_rows O (hl.mono s) (fun p hp => (hr p hp).mono s) hsz (Nat.le_refl _) fun r ι₂ s₂ hr => ?_
  walk_at "rw"
  refine W.tup_ (by walk_at "M.sz") fun t ι₃ s₃ ht => ?_
  exact Ends.ret (Sub.trans s₂ s₃) ⟨.tupF ht (.cons (.str _ _) (.cons (hr.mono s₃) .nil)), rfl⟩
theorem row_PCon {ι : Led} {v : Value} {n : Str} {t : Tok} {q : Value} {us : List (Value × PyData)} {K : Nat} {p : Value} (I : InstF ι v 560 [(s_args, q), (s_name, .str n t), (s_place, p)]) (hl : ListF ι q (us.map (·.1))) (hr : ∀ p ∈ us, HasRow K ι p.1 p.2) (hsz : us.length ≤ sizeLine) : HasRow (K + 2) ι v (.tuple [.str s_pcon, .str n, .tuple (us.map (·.2))]) := by
  refine ⟨_, _, _, I, by kernel_rfl!, (mF .PCon_row), (kF .PCon_row), fun ι' s => ?_⟩
  have I' := I.mono s
  have hh := hl.href
  refine' Spec.intro (k := (K + 1)) (loc := [(s_self, v)]) hd.z557 hd.z556 ?ho ?hob ?hco' ?hcd ?hbind ?hloc ?hco ?hgen ?hk ?hcell ?hb
  walk_at "M.fn"
  intro c ρ O
  walk_at "rw"
  refine W.fld_ O I' (by walk_at "M.at") (fF .PCon_args) ?_ hh
  walk_at "rw"
  refine W.c_rows O (hl.mono s) (fun p hp => (hr p hp).mono s) hsz (Nat.le_refl _) fun r ι₂ s₂ hr => ?_
  walk_at "rw"
  refine W.tup_ (by walk_at "M.sz") fun t ι₃ s₃ ht => ?_
  exact Ends.ret (Sub.trans s₂ s₃) ⟨.tupF ht (.cons (.str _ _) (.cons (.str _ _) (.cons (hr.mono s₃) .nil))), rfl⟩
def Nx (P : Str → Str → Value → Bool) (R : Rd) (ι : Led) (j : Nat) : Prop := ∃ k t x, WordV ι (R.at j) k t x ∧ P k t x = true
theorem Nx.mono {P : Str → Str → Value → Bool} {R : Rd} {ι ι' : Led} {j : Nat} (h : Nx P R ι j) (s : Sub ι ι') : Nx P R ι' j := by refine oEEEA h ?_; clear h; intro k t x a b; exact ⟨k, t, x, a.mono s, b⟩
noncomputable def eA (k t : Str) (_x : Value) : Bool := !(k == s_op && t == h_18)
noncomputable def eP (k t : Str) (x : Value) : Bool := eA k t x && !atomTok k t x
noncomputable def eQ (k t : Str) (x : Value) : Bool := eP k t x && !opTok k t
noncomputable def fTok (k t : Str) (_x : Value) : Bool := !symTok k t && !(k == s_special && (t == h_3 || t == h_4))
theorem Nx.imp {P P' : Str → Str → Value → Bool} {R : Rd} {ι : Led} {j : Nat} (h : Nx P R ι j) (i : ∀ k t x, P k t x = true → P' k t x = true) : Nx P' R ι j := by refine oEEEA h ?_; clear h; intro k t x a b; exact ⟨k, t, x, a, i _ _ _ b⟩
theorem atom_cases {k t : Str} {x : Value} (h : atomTok k t x = true) : k = s_var ∧ x = .none ∨ k = s_con ∨ litTok k = true ∧ (k = s_int ∨ k = s_char ∨ k = s_text) ∨ k = s_special ∧ (t = h_13 ∨ t = h_14) ∨ k = s_key ∧ t = h_15 ∨ k = s_op ∧ t = h_16 ∨ k = s_varsym ∧ t = h_17 := by
  unfold atomTok at h
  by_cases h1 : (k == s_var) = true
  · rw [if_pos h1] at h
    exact .inl ⟨beq_iff_eq.mp h1, beq_iff_eq.mp h⟩
  rw [if_neg h1] at h
  by_cases h2 : (k == s_con) = true
  · exact .inr (.inl (beq_iff_eq.mp h2))
  by_cases h3 : litTok k = true
  · refine .inr (.inr (.inl ⟨h3, ?_⟩))
    simp only [litTok, List.any_cons, List.any_nil, Bool.or_false, Bool.or_eq_true, beq_iff_eq] at h3
    rcases h3 with e | e | e <;> simp [← e]
  rw [if_neg (by simp [h2, h3])] at h
  by_cases h4 : (k == s_special) = true
  · rw [if_pos h4] at h
    simp only [List.any_cons, List.any_nil, Bool.or_false, Bool.or_eq_true, beq_iff_eq] at h
    exact .inr (.inr (.inr (.inl ⟨beq_iff_eq.mp h4, by rcases h with e | e <;> simp [← e]⟩)))
  rw [if_neg h4] at h
  simp only [Bool.or_eq_true, Bool.and_eq_true, beq_iff_eq] at h
  rcases h with (h | h) | h
  · exact .inr (.inr (.inr (.inr (.inl h))))
  · exact .inr (.inr (.inr (.inr (.inr (.inl h)))))
  · exact .inr (.inr (.inr (.inr (.inr (.inr h)))))
theorem atom_fTok {k t : Str} {x : Value} (h : atomTok k t x = true) : fTok k t x = true := by
  rcases atom_cases h with ⟨rfl, _⟩ | rfl | ⟨_, rfl | rfl | rfl⟩ | ⟨rfl, rfl | rfl⟩ | ⟨rfl, rfl⟩ | ⟨rfl, rfl⟩ | ⟨rfl, rfl⟩ <;> first | rfl | (simp [fTok, symTok]; done) | kernel_rfl!
theorem atom_eA {k t : Str} {x : Value} (h : atomTok k t x = true) : eA k t x = true := by
  rcases atom_cases h with ⟨rfl, _⟩ | rfl | ⟨_, rfl | rfl | rfl⟩ | ⟨rfl, rfl | rfl⟩ | ⟨rfl, rfl⟩ | ⟨rfl, rfl⟩ | ⟨rfl, rfl⟩ <;> first | rfl | (simp [eA]; done) | kernel_rfl!
def First (P : Str → Str → Value → Bool) (ι : Led) (ws : List Value) : Prop := ∃ v r k t x, ws = v :: r ∧ WordV ι v k t x ∧ P k t x = true
theorem First.mono {P : Str → Str → Value → Bool} {ι ι' : Led} {ws : List Value} (h : First P ι ws) (s : Sub ι ι') : First P ι' ws := by refine oEEEEEAA h ?_; clear h; intro v r k t x e a b; exact ⟨v, r, k, t, x, e, a.mono s, b⟩
theorem First.nx {P : Str → Str → Value → Bool} {ι : Led} {ws : List Value} (h : First P ι ws) {R : Rd} {i : Nat} (s : Seg R i ws) : Nx P R ι i := by
  refine oEEEEEAA h ?_; clear h; intro v r k t x zo5 a b; obtain rfl := zo5
  obtain ⟨rfl, _⟩ := s.head
  exact ⟨k, t, x, a, b⟩
theorem First.imp {P P' : Str → Str → Value → Bool} {ι : Led} {ws : List Value} (h : First P ι ws) (i : ∀ k t x, P k t x = true → P' k t x = true) : First P' ι ws := by refine oEEEEEAA h ?_; clear h; intro v r k t x e a b; exact ⟨v, r, k, t, x, e, a, i _ _ _ b⟩
structure RAtom (K J : Nat) (ι : Led) (ws : List Value) (x : PyData) : Prop where
  first : First atomTok ι ws
  read : ∀ R ι' i μ, Sub ι ι' → Rd.Ok R ι' → Seg R i ws → Nx eA R ι' (i + ws.length) → Cur R i μ → Spec K 808 [.ref R.xc] μ ι' (Moves R (i + ws.length) fun r ι'' => HasRow J ι'' r x)
structure RPart (K J : Nat) (ι : Led) (ws : List Value) (x : PyData) : Prop where
  first : First fTok ι ws
  read : ∀ R ι' i μ, Sub ι ι' → Rd.Ok R ι' → Seg R i ws → Nx eP R ι' (i + ws.length) → Cur R i μ → Spec K 780 [.ref R.xc] μ ι' (Moves R (i + ws.length) fun r ι'' => HasRow J ι'' r x)
structure RPat (K J : Nat) (ι : Led) (ws : List Value) (x : PyData) : Prop where
  first : First fTok ι ws
  read : ∀ R ι' i μ, Sub ι ι' → Rd.Ok R ι' → Seg R i ws → Nx eQ R ι' (i + ws.length) → Cur R i μ → Spec K 759 [.ref R.xc] μ ι' (Moves R (i + ws.length) fun r ι'' => HasRow J ι'' r x)
theorem RAtom.mono {K J : Nat} {ι ι' : Led} {ws : List Value} {x : PyData} (h : RAtom K J ι ws x) (s : Sub ι ι') : RAtom K J ι' ws x := ⟨h.first.mono s, fun R ι₂ i μ s₂ => h.read R ι₂ i μ (Sub.trans s s₂)⟩
theorem RPart.mono {K J : Nat} {ι ι' : Led} {ws : List Value} {x : PyData} (h : RPart K J ι ws x) (s : Sub ι ι') : RPart K J ι' ws x := ⟨h.first.mono s, fun R ι₂ i μ s₂ => h.read R ι₂ i μ (Sub.trans s s₂)⟩
theorem RPat.mono {K J : Nat} {ι ι' : Led} {ws : List Value} {x : PyData} (h : RPat K J ι ws x) (s : Sub ι ι') : RPat K J ι' ws x := ⟨h.first.mono s, fun R ι₂ i μ s₂ => h.read R ι₂ i μ (Sub.trans s s₂)⟩
theorem Moves.more {R : Rd} {j J J' : Nat} {x : PyData} (h : J ≤ J') {r : Value} {μ ι : Led} (m : Moves R j (fun r ι => HasRow J ι r x) r μ ι) : Moves R j (fun r ι => HasRow J' ι r x) r μ ι := ⟨m.1.more h, m.2⟩
theorem RAtom.more {K K' J J' : Nat} {ι : Led} {ws : List Value} {x : PyData} (h : RAtom K J ι ws x) (hk : K ≤ K') (hj : J ≤ J') : RAtom K' J' ι ws x := ⟨h.first, fun R ι₂ i μ s a b d e => (h.read R ι₂ i μ s a b d e).more hk fun _ _ _ _ z => z.more hj⟩
theorem RPart.more {K K' J J' : Nat} {ι : Led} {ws : List Value} {x : PyData} (h : RPart K J ι ws x) (hk : K ≤ K') (hj : J ≤ J') : RPart K' J' ι ws x := ⟨h.first, fun R ι₂ i μ s a b d e => (h.read R ι₂ i μ s a b d e).more hk fun _ _ _ _ z => z.more hj⟩
theorem RPat.more {K K' J J' : Nat} {ι : Led} {ws : List Value} {x : PyData} (h : RPat K J ι ws x) (hk : K ≤ K') (hj : J ≤ J') : RPat K' J' ι ws x := ⟨h.first, fun R ι₂ i μ s a b d e => (h.read R ι₂ i μ s a b d e).more hk fun _ _ _ _ z => z.more hj⟩
section
variable {c : Cx} {sc : Scope} {m : Lc} {μ ι ρ : Led} {k : Nat}
theorem W.c_atomQ {R : Rd} {i : Nat} {a t : Str} {x : Value} {Q : Po Value} (O : c.Ok sc k) (h : Cur R i μ) (ok : R.Ok ι) (hw : WordV ι (R.at i) a t x) (hk : 3 ≤ k)
    (q : ∀ ι', Sub ι ι' → Q (.bool (atomTok a t x)) m (μ ++ ρ) ι') : c.W (PySem.call (.ref 801) [.ref R.xc]) Q m (μ ++ ρ) ι :=
  W.callS (is_pattern_atom h ok hw) O hk fun r μ' ι' s g => by obtain ⟨rfl, rfl⟩ := g; exact q ι' s
theorem W.c_take {R : Rd} {i : Nat} {a t k' t' : Str} {x : Value} {t1 t2 : Tok} {Q : Po Value} (O : c.Ok sc k) (h : Cur R i μ) (ok : R.Ok ι) (hw : WordV ι (R.at i) a t x) (hi : (a == k' && t == t') = true → i < R.ws.length) (hk : 4 ≤ k)
    (q : ∀ ι' μ', Sub ι ι' → Cur R (if a == k' && t == t' then i + 1 else i) μ' → Q (.bool (a == k' && t == t')) m (μ' ++ ρ) ι') : c.W (PySem.call (.ref 135) [.ref R.xc, .str k' t1, .str t' t2]) Q m (μ ++ ρ) ι :=
  W.callS (take h ok hw hi) O hk fun r μ' ι' s g => by obtain ⟨rfl, h'⟩ := g; exact q ι' μ' s h'
theorem W.c_atom {R : Rd} {i K J : Nat} {ws : List Value} {y : PyData} {Q : Po Value} (O : c.Ok sc k) (h : Cur R i μ) (ok : R.Ok ι) (ra : RAtom K J ι ws y) (sg : Seg R i ws) (nx : Nx eA R ι (i + ws.length)) (hk : K ≤ k)
    (q : ∀ r ι' μ', Sub ι ι' → HasRow J ι' r y → Cur R (i + ws.length) μ' → Q r m (μ' ++ ρ) ι') : c.W (PySem.call (.ref 808) [.ref R.xc]) Q m (μ ++ ρ) ι :=
  W.callS (ra.read R ι i μ Sub.refl ok sg nx h) O hk fun r μ' ι' s g => q r ι' μ' s g.1 g.2
end
theorem eA_at {k t : Str} {x : Value} (h : eA k t x = true) : (k == s_op && t == h_18) = false := by
  cases e : (k == s_op && t == h_18) with
  | false => rfl
  | true => rw [eA, e] at h; cases h
theorem atom_var {ι : Led} {v : Value} {n : Str} (hw : WordV ι v s_var n .none) : RAtom 6 1 ι [v] (.tuple [.str s_pvar, .str n]) := by
  refine ⟨⟨v, [], _, _, _, rfl, hw, by rfl⟩, fun R ι' i μ s ok sg nx h => ?_⟩
  refine oAA sg.head fun zo0 hi _ => ?_; obtain rfl := zo0
  refine oEEEA nx ?_; clear nx; intro k2 t2 x2 w2 e2
  refine' Spec.intro (k := _) (loc := [(s_cursor, .ref R.xc)]) hd.z808 hd.z807 ?ho ?hob ?hco' ?hcd ?hbind ?hloc ?hco ?hgen ?hk ?hcell ?hb
  walk_at "M.fn"
  intro c ρ O
  have w1 := hw.mono s
  walk_at "rw"
  refine W.c_atomQ O h ok w1 (by decide) fun ι₁ s₁ => ?_
  walk_at "rw"
  have ok1 := ok.mono s₁
  refine W.c_next O h ok1 hi (by decide) fun ι₂ μ₂ s₂ h₂ => ?_
  have w2 := w2.mono (Sub.trans s₁ s₂)
  have w1 := w1.mono (Sub.trans s₁ s₂)
  have ok2 := ok1.mono s₂
  walk_at "rw"
  refine W.w_place O w1 (by decide) fun p ι₃ s₃ => ?_
  have w2 := w2.mono s₃
  have w1 := w1.mono s₃
  have ok3 := ok2.mono s₃
  walk_at "rw"
  have e2' := eA_at e2
  refine W.c_take O h₂ ok3 w2 (fun z => by rw [e2'] at z; cases z) (by decide) fun ι₄ μ₄ s₄ h₄ => ?_
  rw [e2'] at h₄
  refine W.truthyB ?_
  refine W.iteF e2' ?_
  have w1 := w1.mono s₄
  walk_at "rw"
  refine W.new_PVar_p O (by decide) fun v ι₅ s₅ I => ?_
  exact Ends.ret (Sub.trans s₁ (Sub.trans s₂ (Sub.trans s₃ (Sub.trans s₄ s₅)))) ⟨row_PVar I, by simpa using h₄⟩
theorem atom_int {ι : Led} {v : Value} {n : Int} {t : Str} {u : Tok} (hw : WordV ι v s_int t (.int n u)) : RAtom 6 1 ι [v] (.tuple [.str s_plit, .str s_int, .int n]) := by
  refine ⟨⟨v, [], _, _, _, rfl, hw, by rfl⟩, fun R ι' i μ s ok sg nx h => ?_⟩
  refine oAA sg.head fun zo0 hi sg1 => ?_; obtain rfl := zo0
  refine' Spec.intro (k := _) (loc := [(s_cursor, .ref R.xc)]) hd.z808 hd.z807 ?ho ?hob ?hco' ?hcd ?hbind ?hloc ?hco ?hgen ?hk ?hcell ?hb
  walk_at "M.fn"
  intro c ρ O
  have w1 := hw.mono s
  walk_at "rw"
  refine W.c_atomQ O h ok w1 (by decide) fun ι₁ s₁ => ?_
  walk_at "rw"
  have ok1 := ok.mono s₁
  refine W.c_next O h ok1 hi (by decide) fun ι₂ μ₂ s₂ h₂ => ?_
  have w1 := w1.mono (Sub.trans s₁ s₂)
  have ok2 := ok1.mono s₂
  walk_at "rw"
  refine W.w_place O w1 (by decide) fun p ι₃ s₃ => ?_
  have w1 := w1.mono s₃
  have ok3 := ok2.mono s₃
  have s123 := Sub.trans s₁ (Sub.trans s₂ s₃)
  walk_at "rw"
  refine W.inK O litsK ?_
  walk_at "rw"
  refine W.new_PLit_p O (by decide) fun v ι₅ s₅ I => ?_
  exact Ends.ret (Sub.trans s123 s₅) ⟨row_PLit I, h₂⟩
theorem atom_chr {ι : Led} {v : Value} {n : Int} {t : Str} {u : Tok} (hw : WordV ι v s_char t (.int n u)) : RAtom 6 1 ι [v] (.tuple [.str s_plit, .str s_char, .int n]) := by
  refine ⟨⟨v, [], _, _, _, rfl, hw, by rfl⟩, fun R ι' i μ s ok sg nx h => ?_⟩
  refine oAA sg.head fun zo0 hi sg1 => ?_; obtain rfl := zo0
  refine' Spec.intro (k := _) (loc := [(s_cursor, .ref R.xc)]) hd.z808 hd.z807 ?ho ?hob ?hco' ?hcd ?hbind ?hloc ?hco ?hgen ?hk ?hcell ?hb
  walk_at "M.fn"
  intro c ρ O
  have w1 := hw.mono s
  walk_at "rw"
  refine W.c_atomQ O h ok w1 (by decide) fun ι₁ s₁ => ?_
  walk_at "rw"
  have ok1 := ok.mono s₁
  refine W.c_next O h ok1 hi (by decide) fun ι₂ μ₂ s₂ h₂ => ?_
  have w1 := w1.mono (Sub.trans s₁ s₂)
  have ok2 := ok1.mono s₂
  walk_at "rw"
  refine W.w_place O w1 (by decide) fun p ι₃ s₃ => ?_
  have w1 := w1.mono s₃
  have ok3 := ok2.mono s₃
  have s123 := Sub.trans s₁ (Sub.trans s₂ s₃)
  walk_at "rw"
  refine W.inK O litsK ?_
  walk_at "rw"
  refine W.new_PLit_p O (by decide) fun v ι₅ s₅ I => ?_
  exact Ends.ret (Sub.trans s123 s₅) ⟨row_PLit I, h₂⟩
theorem atom_wild {ι : Led} {v : Value} {x : Value} (hw : WordV ι v s_key h_15 x) : RAtom 6 1 ι [v] (.tuple [.str s_pwild]) := by
  refine ⟨⟨v, [], _, _, _, rfl, hw, by rfl⟩, fun R ι' i μ s ok sg nx h => ?_⟩
  refine oAA sg.head fun zo0 hi sg1 => ?_; obtain rfl := zo0
  refine' Spec.intro (k := _) (loc := [(s_cursor, .ref R.xc)]) hd.z808 hd.z807 ?ho ?hob ?hco' ?hcd ?hbind ?hloc ?hco ?hgen ?hk ?hcell ?hb
  walk_at "M.fn"
  intro c ρ O
  have w1 := hw.mono s
  walk_at "rw"
  refine W.c_atomQ O h ok w1 (by decide) fun ι₁ s₁ => ?_
  walk_at "rw"
  have ok1 := ok.mono s₁
  refine W.c_next O h ok1 hi (by decide) fun ι₂ μ₂ s₂ h₂ => ?_
  have w1 := w1.mono (Sub.trans s₁ s₂)
  have ok2 := ok1.mono s₂
  walk_at "rw"
  refine W.w_place O w1 (by decide) fun p ι₃ s₃ => ?_
  have w1 := w1.mono s₃
  have ok3 := ok2.mono s₃
  have s123 := Sub.trans s₁ (Sub.trans s₂ s₃)
  walk_at "rw"
  refine W.inK O litsK ?_
  walk_at "rw"
  refine W.new_PWild_p O (by decide) fun v ι₅ s₅ I => ?_
  exact Ends.ret (Sub.trans s123 s₅) ⟨row_PWild I, h₂⟩
theorem atom_con {ι : Led} {v : Value} {n t : Str} {x : Value} (hw : WordV ι v s_con t x) (hf : FullN x t n) : RAtom 6 2 ι [v] (.tuple [.str s_pcon, .str n, .tuple []]) := by
  refine ⟨⟨v, [], _, _, _, rfl, hw, by rfl⟩, fun R ι' i μ s ok sg nx h => ?_⟩
  refine oAA sg.head fun zo0 hi sg1 => ?_; obtain rfl := zo0
  refine' Spec.intro (k := _) (loc := [(s_cursor, .ref R.xc)]) hd.z808 hd.z807 ?ho ?hob ?hco' ?hcd ?hbind ?hloc ?hco ?hgen ?hk ?hcell ?hb
  walk_at "M.fn"
  intro c ρ O
  have w1 := hw.mono s
  walk_at "rw"
  refine W.c_atomQ O h ok w1 (by decide) fun ι₁ s₁ => ?_
  walk_at "rw"
  have ok1 := ok.mono s₁
  refine W.c_next O h ok1 hi (by decide) fun ι₂ μ₂ s₂ h₂ => ?_
  have w1 := w1.mono (Sub.trans s₁ s₂)
  have ok2 := ok1.mono s₂
  walk_at "rw"
  refine W.w_place O w1 (by decide) fun p ι₃ s₃ => ?_
  have w1 := w1.mono s₃
  have ok3 := ok2.mono s₃
  have s123 := Sub.trans s₁ (Sub.trans s₂ s₃)
  walk_at "rw"
  refine W.c_full O w1 hf (by decide) fun u ι₄ s₄ => ?_
  walk_at "rw"
  refine W.list_ (by walk_at "M.sz") fun l ι₅ s₅ hl => ?_
  walk_at "rw"
  refine W.new_PCon_p O (by decide) fun v ι₆ s₆ I => ?_
  exact Ends.ret (Sub.trans s123 (Sub.trans s₄ (Sub.trans s₅ s₆))) ⟨row_PCon (us := []) (K := 0) I (hl.mono s₆) (fun _ h => by cases h) (by walk_at "M.sz"), h₂⟩
theorem atom_lazy {K J : Nat} {ι : Led} {v : Value} {x : Value} {ws : List Value} {y : PyData} (hK : 5 ≤ K) (hw : WordV ι v s_op h_16 x) (ra : RAtom K J ι ws y) : RAtom (K + 1) (J + 1) ι (v :: ws) (.tuple [.str s_plazy, y]) := by
  refine ⟨⟨v, ws, _, _, _, rfl, hw, by rfl⟩, fun R ι' i μ s ok sg nx h => ?_⟩
  refine oAA sg.head fun zo0 hi sg1 => ?_; obtain rfl := zo0
  refine' Spec.intro (k := _) (loc := [(s_cursor, .ref R.xc)]) hd.z808 hd.z807 ?ho ?hob ?hco' ?hcd ?hbind ?hloc ?hco ?hgen ?hk ?hcell ?hb
  walk_at "M.fn"
  intro c ρ O
  have w1 := hw.mono s
  walk_at "rw"
  refine W.c_atomQ O h ok w1 (Nat.le_trans (by decide) hK) fun ι₁ s₁ => ?_
  walk_at "rw"
  have ok1 := ok.mono s₁
  refine W.c_next O h ok1 hi (Nat.le_trans (by decide) hK) fun ι₂ μ₂ s₂ h₂ => ?_
  have w1 := w1.mono (Sub.trans s₁ s₂)
  have ok2 := ok1.mono s₂
  walk_at "rw"
  refine W.w_place O w1 (Nat.le_trans (by decide) hK) fun p ι₃ s₃ => ?_
  have w1 := w1.mono s₃
  have ok3 := ok2.mono s₃
  have s123 := Sub.trans s₁ (Sub.trans s₂ s₃)
  walk_at "rw"
  refine W.inK O litsK ?_
  walk_at "rw"
  have nx' := nx.mono s123
  refine W.c_atom O h₂ ok3 (ra.mono (Sub.trans s s123)) sg1 (by rw [Nat.add_assoc, Nat.add_comm 1]; exact nx') (Nat.le_refl _) fun r ι₄ μ₄ s₄ hr h₄ => ?_
  walk_at "rw"
  refine W.new_PLazy_p O (Nat.le_trans (by decide) hK) fun v ι₅ s₅ I => ?_
  refine Ends.ret (Sub.trans s123 (Sub.trans s₄ s₅)) ⟨row_PLazy I (hr.mono s₅), ?_⟩
  rw [List.length_cons, show i + (ws.length + 1) = i + 1 + ws.length by walk_at "o"]
  exact h₄
theorem atom_bang {K J : Nat} {ι : Led} {v : Value} {x : Value} {ws : List Value} {y : PyData} (hK : 5 ≤ K) (hw : WordV ι v s_varsym h_17 x) (ra : RAtom K J ι ws y) : RAtom (K + 1) (J + 1) ι (v :: ws) (.tuple [.str s_pbang, y]) := by
  refine ⟨⟨v, ws, _, _, _, rfl, hw, by rfl⟩, fun R ι' i μ s ok sg nx h => ?_⟩
  refine oAA sg.head fun zo0 hi sg1 => ?_; obtain rfl := zo0
  refine' Spec.intro (k := _) (loc := [(s_cursor, .ref R.xc)]) hd.z808 hd.z807 ?ho ?hob ?hco' ?hcd ?hbind ?hloc ?hco ?hgen ?hk ?hcell ?hb
  walk_at "M.fn"
  intro c ρ O
  have w1 := hw.mono s
  walk_at "rw"
  refine W.c_atomQ O h ok w1 (Nat.le_trans (by decide) hK) fun ι₁ s₁ => ?_
  walk_at "rw"
  have ok1 := ok.mono s₁
  refine W.c_next O h ok1 hi (Nat.le_trans (by decide) hK) fun ι₂ μ₂ s₂ h₂ => ?_
  have w1 := w1.mono (Sub.trans s₁ s₂)
  have ok2 := ok1.mono s₂
  walk_at "rw"
  refine W.w_place O w1 (Nat.le_trans (by decide) hK) fun p ι₃ s₃ => ?_
  have w1 := w1.mono s₃
  have ok3 := ok2.mono s₃
  have s123 := Sub.trans s₁ (Sub.trans s₂ s₃)
  walk_at "rw"
  refine W.inK O litsK ?_
  walk_at "rw"
  have nx' := nx.mono s123
  refine W.c_atom O h₂ ok3 (ra.mono (Sub.trans s s123)) sg1 (by rw [Nat.add_assoc, Nat.add_comm 1]; exact nx') (Nat.le_refl _) fun r ι₄ μ₄ s₄ hr h₄ => ?_
  walk_at "rw"
  refine W.new_PBang_p O (Nat.le_trans (by decide) hK) fun v ι₅ s₅ I => ?_
  refine Ends.ret (Sub.trans s123 (Sub.trans s₄ s₅)) ⟨row_PBang I (hr.mono s₅), ?_⟩
  rw [List.length_cons, show i + (ws.length + 1) = i + 1 + ws.length by walk_at "o"]
  exact h₄
theorem atom_as {K J : Nat} {ι : Led} {v v2 : Value} {n : Str} {x2 : Value} {ws : List Value} {y : PyData} (hK : 5 ≤ K) (hw : WordV ι v s_var n .none) (hw2 : WordV ι v2 s_op h_18 x2) (ra : RAtom K J ι ws y) : RAtom (K + 1) (J + 1) ι (v :: v2 :: ws) (.tuple [.str s_pas, .str n, y]) := by
  refine ⟨⟨v, v2 :: ws, _, _, _, rfl, hw, by rfl⟩, fun R ι' i μ s ok sg nx h => ?_⟩
  refine oAA sg.head fun zo0 hi sg1 => ?_; obtain rfl := zo0
  refine' Spec.intro (k := _) (loc := [(s_cursor, .ref R.xc)]) hd.z808 hd.z807 ?ho ?hob ?hco' ?hcd ?hbind ?hloc ?hco ?hgen ?hk ?hcell ?hb
  walk_at "M.fn"
  intro c ρ O
  have w1 := hw.mono s
  walk_at "rw"
  refine W.c_atomQ O h ok w1 (Nat.le_trans (by decide) hK) fun ι₁ s₁ => ?_
  walk_at "rw"
  have ok1 := ok.mono s₁
  refine W.c_next O h ok1 hi (Nat.le_trans (by decide) hK) fun ι₂ μ₂ s₂ h₂ => ?_
  have w1 := w1.mono (Sub.trans s₁ s₂)
  have ok2 := ok1.mono s₂
  walk_at "rw"
  refine W.w_place O w1 (Nat.le_trans (by decide) hK) fun p ι₃ s₃ => ?_
  have w1 := w1.mono s₃
  have ok3 := ok2.mono s₃
  have s123 := Sub.trans s₁ (Sub.trans s₂ s₃)
  walk_at "rw"
  refine oAA sg1.head fun e2 hi2 sg2 => ?_
  subst e2
  have w2 := hw2.mono (Sub.trans s s123)
  refine W.c_take O h₂ ok3 w2 (fun _ => hi2) (Nat.le_trans (by decide) hK) fun ι₄ μ₄ s₄ h₄ => ?_
  replace h₄ : Cur R (i + 1 + 1) μ₄ := h₄
  walk_at "rw"
  have w1 := w1.mono s₄
  have ok4 := ok3.mono s₄
  have nx' := nx.mono (Sub.trans s123 s₄)
  walk_at "rw"
  refine W.c_atom O h₄ ok4 (ra.mono (Sub.trans s (Sub.trans s123 s₄))) sg2 (by rw [show i + 1 + 1 + ws.length = i + (R.at i :: R.at (i + 1) :: ws).length by simp only [List.length_cons]; walk_at "o"]; exact nx') (Nat.le_refl _) fun r ι₅ μ₅ s₅ hr h₅ => ?_
  walk_at "rw"
  refine W.new_PAs_p O (Nat.le_trans (by decide) hK) fun v ι₆ s₆ I => ?_
  refine Ends.ret (Sub.trans s123 (Sub.trans s₄ (Sub.trans s₅ s₆))) ⟨row_PAs I (hr.mono s₆), ?_⟩
  rw [show i + (R.at i :: R.at (i + 1) :: ws).length = i + 1 + 1 + ws.length by simp only [List.length_cons]; walk_at "o"]
  exact h₅
section
variable {c : Cx} {sc : Scope} {m : Lc} {μ ι ρ : Led} {k : Nat}
theorem W.lapp {l : Addr} {o : Obj} {vs : List Value} {pl : Sem Bool} {Q : Po (Value × List Value)} (hm : (l, o) ∈ μ) (hp : PObj o vs) (q : Q (.builtin "list.append", [.ref l]) m μ ι) : c.W (getMethod (.ref l) s_append pl) Q m μ ι := .mk fun hp' tk S => by
  obtain ⟨n, rfl⟩ := hp
  rw [show s_append = Str.ofString "append" from by kernel_rfl!]
  exact Calls.getMethod_list_append (S.N _ (List.mem_append.mpr (.inl hm))).1 rfl rfl (S.same q)
theorem W.lrev {l : Addr} {o : Obj} {vs : List Value} {pl : Sem Bool} {Q : Po (Value × List Value)} (hm : (l, o) ∈ μ) (hp : PObj o vs) (q : Q (.builtin "list.reverse", [.ref l]) m μ ι) : c.W (getMethod (.ref l) s_reverse pl) Q m μ ι := .mk fun hp' tk S => by
  have hl := hp.lobj.isList S hm
  obtain ⟨n, rfl⟩ := hp
  rw [show s_reverse = Str.ofString "reverse" from by kernel_rfl!]
  exact getMethod_list_of PySem.F.slot_list_reverse PySem.F.type_list_reverse hl ⟨_, (S.N _ (List.mem_append.mpr (.inl hm))).1, rfl⟩ (S.same q)
end
local macro_rules | `(tactic| walk_at "M.meth") => `(tactic| ((with_reducible first | refine' W.lapp ?hm ?hp ?q | refine' W.lrev ?hm ?hp ?q); (case hm => walk_at "M.memM"); (case hp => assumption)))
section
variable {c : Cx} {sc : Scope} {m : Lc} {μ ι ρ : Led} {k : Nat}
theorem W.c_oper {R : Rd} {i : Nat} {ws : List Value} {n : Str} {Q : Po Value} (O : c.Ok sc k) (h : Cur R i μ) (ok : R.Ok ι) (sg : Seg R i ws) (hs : OpSeg ι ws n) (hk : 5 ≤ k)
    (q : ∀ r ι' μ', Sub ι ι' → OpN ι' r n → Cur R (i + ws.length) μ' → Q r m (μ' ++ ρ) ι') : c.W (PySem.call (.ref 773) [.ref R.xc]) Q m (μ ++ ρ) ι :=
  W.callS (read_con_operator h ok sg hs) O hk fun r μ' ι' s g => q r ι' μ' s g.1 g.2
theorem W.c_symQ {v : Value} {a t : Str} {x : Value} {Q : Po Value} (O : c.Ok sc k) (hw : WordV ι v a t x) (hk : 2 ≤ k)
    (q : ∀ ι', Sub ι ι' → Q (.bool (symTok a t)) m μ ι') : c.W (PySem.call (.ref 794) [v]) Q m μ ι :=
  W.callS (μ := []) (is_con_symbol hw) O hk fun r μ' ι' s g => by obtain ⟨rfl, rfl⟩ := g; exact q ι' s
end
inductive ConSeg (ι : Led) : List Value → Str → Prop
  | con {v t x n} : WordV ι v s_con t x → FullN x t n → ConSeg ι [v] n
  | sym {v₁ v₂ v₃ t x n x₁ x₃} : WordV ι v₁ s_special h_13 x₁ → WordV ι v₂ s_consym t x → WordV ι v₃ s_special h_3 x₃ → FullN x t n → ConSeg ι [v₁, v₂, v₃] n
theorem ConSeg.mono {ι ι' : Led} {ws : List Value} {n : Str} (s : Sub ι ι') (h : ConSeg ι ws n) : ConSeg ι' ws n := by
  cases h with
  | con a b => exact .con (a.mono s) b
  | sym a b d e => exact .sym (a.mono s) (b.mono s) (d.mono s) e
theorem read_con_name {R : Rd} {i : Nat} {μ ι : Led} {ws : List Value} {n : Str} (h : Cur R i μ) (ok : R.Ok ι) (sg : Seg R i ws) (hs : ConSeg ι ws n) : Spec 6 787 [.ref R.xc] μ ι (Moves R (i + ws.length) fun r ι' => ∃ u, r = .str n u) := by
  refine' Spec.intro (k := _) (loc := [(s_cursor, .ref R.xc)]) hd.z787 hd.z786 ?ho ?hob ?hco' ?hcd ?hbind ?hloc ?hco ?hgen ?hk ?hcell ?hb
  walk_at "M.fn"
  intro c ρ O
  cases hs with
  | con hw hf =>
    refine oAA sg.head fun zo0 hi _ => ?_; obtain rfl := zo0
    walk_at "rw"
    refine W.c_is_at O h ok hw (.inl rfl) [] (.inr ⟨rfl, rfl⟩) (by decide) fun ι₁ s₁ => ?_
    have ok1 := ok.mono s₁
    walk_at "rw"
    refine W.c_next O h ok1 hi (by decide) fun ι₂ μ₂ s₂ h₂ => ?_
    have hw2 := hw.mono (Sub.trans s₁ s₂)
    walk_at "rw"
    refine W.c_full O hw2 hf (by decide) fun u ι₃ s₃ => ?_
    exact Ends.ret (Sub.trans s₁ (Sub.trans s₂ s₃)) ⟨⟨u, rfl⟩, h₂⟩
  | sym w1 w2 w3 hf =>
    refine oAA sg.head fun e1 hi1 sg1 => ?_
    refine oAA sg1.head fun e2 hi2 sg2 => ?_
    refine oAA sg2.head fun e3 hi3 _ => ?_
    subst e1 e2 e3
    walk_at "rw"
    refine W.c_is_at O h ok w1 (.inl rfl) [] (.inr ⟨rfl, rfl⟩) (by decide) fun ι₁ s₁ => ?_
    have ok1 := ok.mono s₁
    have w1' := w1.mono s₁
    walk_at "rw"
    refine W.c_is_at O h ok1 w1' (.inr ⟨_, _, rfl⟩) [_] (.inl rfl) (by decide) fun ι₂ s₂ => ?_
    have ok2 := ok1.mono s₂
    walk_at "rw"
    refine W.c_behind O h ok2 hi2 (by decide) fun ι₃ s₃ => ?_
    have ok3 := ok2.mono s₃
    have w2' := w2.mono (Sub.trans s₁ (Sub.trans s₂ s₃))
    walk_at "rw"
    refine W.c_symQ O w2' (by decide) fun ι₄ s₄ => ?_
    have ok4 := ok3.mono s₄
    walk_at "rw"
    refine W.c_next O h ok4 hi1 (by decide) fun ι₅ μ₅ s₅ h₅ => ?_
    have ok5 := ok4.mono s₅
    have s15 := Sub.trans s₁ (Sub.trans s₂ (Sub.trans s₃ (Sub.trans s₄ s₅)))
    walk_at "rw"
    refine W.c_oper (ws := [R.at (i + 1)]) O h₅ ok5 (by obtain ⟨a, _⟩ := Seg.app (a := [_]) sg1; exact a) (.sym (w2.mono s15) hf) (by decide) fun r ι₆ μ₆ s₆ hr h₆ => ?_
    refine oEE hr ?_; clear hr; intro p u I
    have ok6 := ok5.mono s₆
    walk_at "rw"
    have w3' := w3.mono (Sub.trans s15 s₆)
    refine W.c_want O h₆ ok6 w3' hi3 (.inr ⟨_, rfl⟩) [_] (.inl rfl) (by decide) fun ι₇ μ₇ s₇ h₇ => ?_
    walk_at "rw"
    exact Ends.ret (Sub.trans s15 (Sub.trans s₆ s₇)) ⟨⟨u, rfl⟩, h₇⟩
theorem no_con_name {R : Rd} {i : Nat} {μ ι : Led} {k t : Str} {x : Value} (h : Cur R i μ) (ok : R.Ok ι) (hw : WordV ι (R.at i) k t x) (hk : (k == s_con) = false)
    (hb : (k == s_special && t == h_13) = false ∨ i + 1 < R.ws.length ∧ ∃ k' t' x', WordV ι (R.at (i + 1)) k' t' x' ∧ symTok k' t' = false) : Spec 4 787 [.ref R.xc] μ ι (Moves R i fun r ι' => r = .none) := by
  refine' Spec.intro (k := _) (loc := [(s_cursor, .ref R.xc)]) hd.z787 hd.z786 ?ho ?hob ?hco' ?hcd ?hbind ?hloc ?hco ?hgen ?hk ?hcell ?hb
  walk_at "M.fn"
  intro c ρ O
  walk_at "rw"
  refine W.c_is_at O h ok hw (.inl rfl) [] (.inr ⟨rfl, rfl⟩) (by decide) fun ι₁ s₁ => ?_
  have ok1 := ok.mono s₁
  have w1' := hw.mono s₁
  walk_at "rw"
  refine W.iteF (by simpa [textIs] using hk) ?_
  walk_at "rw"
  refine W.c_is_at O h ok1 w1' (.inr ⟨_, _, rfl⟩) [_] (.inl rfl) (by decide) fun ι₂ s₂ => ?_
  have ok2 := ok1.mono s₂
  walk_at "rw"
  show ite _ _ _
  cases e : (k == s_special && t == h_13)
  · refine W.iteT (by simp only [textIs, e]; rfl) ?_
    walk_at "rw"
    exact Ends.ret (Sub.trans s₁ s₂) ⟨rfl, h⟩
  · refine W.iteF (by simp only [textIs, e]; rfl) ?_
    rcases hb with hb | ⟨hi2, k', t', x', w2, hs⟩
    · rw [e] at hb; cases hb
    walk_at "rw"
    refine W.c_behind O h ok2 hi2 (by decide) fun ι₃ s₃ => ?_
    have w2' := w2.mono (Sub.trans s₁ (Sub.trans s₂ s₃))
    walk_at "rw"
    refine W.c_symQ O w2' (by decide) fun ι₄ s₄ => ?_
    walk_at "rw"
    refine W.iteT (by rw [hs]; rfl) ?_
    walk_at "rw"
    exact Ends.ret (Sub.trans s₁ (Sub.trans s₂ (Sub.trans s₃ s₄))) ⟨rfl, h⟩
theorem part_neg {ι : Led} {v v2 : Value} {n : Int} {t : Str} {u : Tok} (hw : WordV ι v s_varsym h_12 .none) (hw2 : WordV ι v2 s_int t (.int n u)) : RPart 7 1 ι [v, v2] (.tuple [.str s_plit, .str s_int, .int (0 - n)]) := by
  refine ⟨⟨v, [v2], _, _, _, rfl, hw, by rfl⟩, fun R ι' i μ s ok sg nx h => ?_⟩
  refine oAA sg.head fun e1 hi sg1 => ?_
  refine oAA sg1.head fun e2 hi2 _ => ?_
  subst e1 e2
  refine' Spec.intro (k := _) (loc := [(s_cursor, .ref R.xc)]) hd.z780 hd.z779 ?ho ?hob ?hco' ?hcd ?hbind ?hloc ?hco ?hgen ?hk ?hcell ?hb
  walk_at "M.fn"
  intro c ρ O
  have w1 := hw.mono s
  walk_at "rw"
  refine W.c_peek O h ok (by decide) fun ι₁ s₁ => ?_
  have w1 := w1.mono s₁
  have ok1 := ok.mono s₁
  walk_at "rw"
  refine W.w_is_word O w1 (by decide) fun ι₂ s₂ => ?_
  have w1 := w1.mono s₂
  have ok2 := ok1.mono s₂
  walk_at "rw"
  refine W.c_next O h ok2 hi (by decide) fun ι₃ μ₃ s₃ h₃ => ?_
  have ok3 := ok2.mono s₃
  have s13 := Sub.trans s₁ (Sub.trans s₂ s₃)
  have w2 := hw2.mono (Sub.trans s s13)
  walk_at "rw"
  refine W.c_want O h₃ ok3 w2 hi2 (.inl rfl) [] (.inr ⟨rfl, rfl⟩) (by decide) fun ι₄ μ₄ s₄ h₄ => ?_
  have w2 := w2.mono s₄
  have w1 := w1.mono (Sub.trans s₃ s₄)
  walk_at "rw"
  refine W.w_place O w1 (by decide) fun p ι₅ s₅ => ?_
  walk_at "rw"
  refine W.new_PLit_p O (by decide) fun v ι₆ s₆ I => ?_
  exact Ends.ret (Sub.trans s13 (Sub.trans s₄ (Sub.trans s₅ s₆))) ⟨row_PLit I, h₄⟩
section
variable {c : Cx} {sc : Scope} {m : Lc} {μ ι ρ : Led} {k : Nat}
theorem W.c_conName {R : Rd} {i : Nat} {ws : List Value} {n : Str} {Q : Po Value} (O : c.Ok sc k) (h : Cur R i μ) (ok : R.Ok ι) (sg : Seg R i ws) (hs : ConSeg ι ws n) (hk : 6 ≤ k)
    (q : ∀ u ι' μ', Sub ι ι' → Cur R (i + ws.length) μ' → Q (.str n u) m (μ' ++ ρ) ι') : c.W (PySem.call (.ref 787) [.ref R.xc]) Q m (μ ++ ρ) ι :=
  W.callS (read_con_name h ok sg hs) O hk fun r μ' ι' s g => by obtain ⟨⟨u, rfl⟩, h'⟩ := g; exact q u ι' μ' s h'
theorem W.c_noName {R : Rd} {i : Nat} {a t : Str} {x : Value} {Q : Po Value} (O : c.Ok sc k) (h : Cur R i μ) (ok : R.Ok ι) (hw : WordV ι (R.at i) a t x) (ha : (a == s_con) = false)
    (hb : (a == s_special && t == h_13) = false ∨ i + 1 < R.ws.length ∧ ∃ k' t' x', WordV ι (R.at (i + 1)) k' t' x' ∧ symTok k' t' = false) (hk : 4 ≤ k)
    (q : ∀ ι' μ', Sub ι ι' → Cur R i μ' → Q .none m (μ' ++ ρ) ι') : c.W (PySem.call (.ref 787) [.ref R.xc]) Q m (μ ++ ρ) ι :=
  W.callS (no_con_name h ok hw ha hb) O hk fun r μ' ι' s g => by obtain ⟨rfl, h'⟩ := g; exact q ι' μ' s h'
theorem Ends.retF {R : Value → Led → Led → Prop} {ι' : Led} {v : Value} {p : Addr × Obj} (hι : Sub ι ι') (r : R v μ (p :: ι')) : Ends ι ρ R (.ret v) m (μ ++ p :: ρ) ι' :=
  fun D => ⟨μ, p :: ι', fun q hq => by simp only [List.mem_append, List.mem_cons] at hq ⊢; rcases hq with (a | a) | a | a <;> simp [a], D.freeze, Sub.trans hι Sub.cons, r⟩
theorem W.freezeL {α : Type} {t : Sem α} {Q : Po α} {l : Addr} {o : Obj} {vs : List Value} (h : PObj o vs) (q : ∀ ι', Sub ι ι' → ListF ι' (.ref l) vs → c.W t Q m (μ ++ ρ) ι') : c.W t Q m (μ ++ (l, o) :: ρ) ι :=
  W.freeze (q _ Sub.cons ⟨l, o, rfl, .head _, h.lobj⟩)
end
theorem part_con {K J : Nat} {ι : Led} {cs : List Value} {n : Str} {as : List (List Value × PyData)} (hK : 6 ≤ K) (hs : ConSeg ι cs n) (ha : ∀ a ∈ as, RAtom K J ι a.1 a.2) (hsz : as.length < 1000) :
    RPart (K + 1) (J + 2) ι (cs ++ as.flatMap (·.1)) (.tuple [.str s_pcon, .str n, .tuple (as.map (·.2))]) := by
  refine ⟨?_, fun R ι' i μ s ok sg nx h => ?_⟩
  · cases hs with
    | con a _ => exact ⟨_, _, _, _, _, rfl, a, by rfl⟩
    | sym a _ _ _ => exact ⟨_, _, _, _, _, rfl, a, by rfl⟩
  obtain ⟨sg1, sg2⟩ := sg.app
  rw [List.length_append, ← Nat.add_assoc] at nx
  have hw : ∃ k t x, WordV ι' (R.at i) k t x ∧ (k == s_varsym && t == h_12) = false := by
    cases hs with
    | con a _ => obtain ⟨rfl, _⟩ := sg1.head; exact ⟨_, _, _, a.mono s, by rfl⟩
    | sym a _ _ _ => obtain ⟨rfl, _⟩ := sg1.head; exact ⟨_, _, _, a.mono s, by rfl⟩
  refine oEEEA hw ?_; clear hw; intro k0 t0 x0 w0 n0
  refine' Spec.intro (k := _) (loc := [(s_cursor, .ref R.xc)]) hd.z780 hd.z779 ?ho ?hob ?hco' ?hcd ?hbind ?hloc ?hco ?hgen ?hk ?hcell ?hb
  walk_at "M.fn"
  intro c ρ O
  walk_at "rw"
  refine W.c_peek O h ok (Nat.le_trans (by decide) hK) fun ι₁ s₁ => ?_
  have w1 := w0.mono s₁
  have ok1 := ok.mono s₁
  walk_at "rw"
  refine W.w_is_word O w1 (Nat.le_trans (by decide) hK) fun ι₂ s₂ => ?_
  have ok2 := ok1.mono s₂
  refine W.truthyB (W.iteF n0 ?_)
  walk_at "rw"
  refine W.c_conName O h ok2 sg1 (hs.mono (Sub.trans s (Sub.trans s₁ s₂))) hK fun u ι₃ μ₃ s₃ h₃ => ?_
  have ok3 := ok2.mono s₃
  have s13 := Sub.trans s₁ (Sub.trans s₂ s₃)
  walk_at "rw"
  refine W.listP (μ₁ := μ₃) (by walk_at "M.sz") fun l o ho => ?_
  refine W.while_ (fun n' m' μ' ι₄ => ∃ (done todo : List (List Value × PyData)) (us : List (Value × PyData)) (μc : Led) (o : Obj) (i' : Nat) (m₀ : Lc), as = done ++ todo ∧ todo.length = n' ∧ m' = (s_args, .ref l) :: (s_name, .str n u) :: (s_word, R.at i) :: m₀ ∧ At s_cursor (.ref R.xc) m₀ ∧ μ' = μc ++ (l, o) :: ρ ∧ Cur R i' μc ∧ PObj o (us.map (·.1)) ∧ us.map (·.2) = done.map (·.2) ∧
      (∀ p ∈ us, HasRow J ι₄ p.1 p.2) ∧ i' + (todo.flatMap (·.1)).length = i + cs.length + (as.flatMap (·.1)).length ∧ Seg R i' (todo.flatMap (·.1)) ∧ Sub ι₃ ι₄) (n₀ := as.length)
    ⟨[], as, [], μ₃, o, i + cs.length, _, rfl, rfl, rfl, .here, rfl, h₃, ho, rfl, by simp, rfl, sg2, Sub.refl⟩ fun n' m' μ' ι₄ j => ?_
  refine oEEEEEEEAA j ?_; clear j; intro done todo us μc o i' m₀ e1 e2 zz; refine oAAAAAAAAA zz ?_; clear zz; intro zo9 e4 zo11 hc hp e5 hr e6 sg3 s₄; obtain rfl := zo9; obtain rfl := zo11
  have ok4 := ok3.mono s₄
  have s14 := Sub.trans s13 s₄
  have hlen : us.length = done.length := by simpa using congrArg List.length e5
  have hdl : done.length ≤ as.length := by rw [e1]; simp
  have hS : sizeLine = 16777216 := sizeLine_eq
  cases todo with
  | nil =>
    simp only [List.flatMap_nil, List.length_nil, Nat.add_zero] at e6
    refine oEEEA (nx.mono s14) fun k5 t5 x5 w5 e7 => ?_
    rw [← e6] at w5
    walk_at "rw"
    refine W.c_atomQ O hc ok4 w5 (Nat.le_trans (by decide) hK) fun ι₅ s₅ => ?_
    have e8 : atomTok k5 t5 x5 = false := by
      cases e : atomTok k5 t5 x5 with
      | false => rfl
      | true => rw [eP, e, Bool.not_true, Bool.and_false] at e7; cases e7
    refine W.truthyB (W.iteF e8 ?_)
    have w1 := w0.mono (Sub.trans s14 s₅)
    have hr' : ∀ p ∈ us, HasRow J ι₅ p.1 p.2 := fun p hp => (hr p hp).mono s₅
    walk_at "rw"
    refine W.w_place O w1 (Nat.le_trans (by decide) hK) fun p ι₆ s₆ => ?_
    refine W.freezeL hp fun ι₇ s₇ hl => ?_
    walk_at "rw"
    refine W.new_PCon_p O (Nat.le_trans (by decide) hK) fun v ι₈ s₈ I => ?_
    refine Ends.ret (Sub.trans s14 (Sub.trans s₅ (Sub.trans s₆ (Sub.trans s₇ s₈)))) ⟨?_, ?_⟩
    · have z := row_PCon (us := us) (K := J) I (hl.mono s₈) (fun p hp => (hr' p hp).mono (Sub.trans s₆ (Sub.trans s₇ s₈))) (by walk_at "o")
      rw [e5] at z
      rw [e1, List.append_nil]
      exact z
    · rw [List.length_append, ← Nat.add_assoc, ← e6]
      exact hc
  | cons a todo =>
    have ra := (ha a (by rw [e1]; simp)).mono (Sub.trans s s14)
    simp only [List.flatMap_cons] at sg3 e6
    obtain ⟨sg4, sg5⟩ := sg3.app
    refine oEEEA (ra.first.nx sg4) fun k5 t5 x5 w5 e7 => ?_
    walk_at "rw"
    refine W.c_atomQ O hc ok4 w5 (Nat.le_trans (by decide) hK) fun ι₅ s₅ => ?_
    refine W.truthyB (W.iteT e7 ?_)
    have ok5 := ok4.mono s₅
    have nx5 : Nx eA R ι₅ (i' + a.1.length) := by
      cases todo with
      | nil =>
        have z := (nx.mono (Sub.trans s14 s₅)).imp (P' := eA) fun k t x h => by rw [eP, Bool.and_eq_true] at h; exact h.1
        rw [← e6] at z
        simpa using z
      | cons b todo =>
        have rb := (ha b (by rw [e1]; simp)).mono (Sub.trans s (Sub.trans s14 s₅))
        simp only [List.flatMap_cons] at sg5
        exact (rb.first.nx sg5.app.1).imp fun k t x h => atom_eA h
    walk_at "rw"
    refine W.c_atom O hc ok5 (ra.mono s₅) sg4 nx5 (Nat.le_refl _) fun r ι₆ μ₆ s₆ hr₆ h₆ => ?_
    walk_at "rw"
    refine W.append (μ₁ := μ₆) hp (by rw [List.length_map]; walk_at "o") fun o' hp' => ?_
    walk_at "rw"
    refine ⟨rfl, todo.length, by rw [← e2]; exact Nat.lt_succ_self _, done ++ [a], todo, us ++ [(r, a.2)], μ₆, o', i' + a.1.length, m₀, by rw [e1]; simp, rfl, rfl, e4, rfl, h₆, by rw [List.map_append]; exact hp', by simp [e5], ?_, ?_, sg5, Sub.trans s₄ (Sub.trans s₅ s₆)⟩
    · intro p hp
      rcases List.mem_append.mp hp with hp | hp
      · exact (hr p hp).mono (Sub.trans s₅ s₆)
      · rw [List.mem_singleton.mp hp]; exact hr₆
    · rw [List.length_append] at e6; walk_at "o"
theorem atom_neg {k t : Str} {x : Value} (h : atomTok k t x = true) : (k == s_varsym && t == h_12) = false := by
  rcases atom_cases h with ⟨rfl, _⟩ | rfl | ⟨_, rfl | rfl | rfl⟩ | ⟨rfl, rfl | rfl⟩ | ⟨rfl, rfl⟩ | ⟨rfl, rfl⟩ | ⟨rfl, rfl⟩ <;> first | rfl | (simp; done) | kernel_rfl!
noncomputable def plainTok (k t : Str) (x : Value) : Bool := atomTok k t x && (!(k == s_con) && !(k == s_special && t == h_13))
theorem plain_parts {k t : Str} {x : Value} (h : plainTok k t x = true) : atomTok k t x = true ∧ (k == s_con) = false ∧ (k == s_special && t == h_13) = false := by
  unfold plainTok at h
  simp only [Bool.and_eq_true] at h
  refine oAA h ?_; clear h; intro a b d
  refine ⟨a, ?_, ?_⟩
  · cases e : (k == s_con) with
    | false => rfl
    | true => rw [e] at b; cases b
  · cases e : (k == s_special && t == h_13) with
    | false => rfl
    | true => rw [e] at d; cases d
theorem part_atom {K J : Nat} {ι : Led} {ws : List Value} {x : PyData} (hK : 5 ≤ K) (ra : RAtom K J ι ws x)
    (hf : First plainTok ι ws ∨ ∃ v r y, ws = v :: r ∧ WordV ι v s_special h_13 y ∧ First (fun k t _ => !symTok k t) ι r) : RPart (K + 1) J ι ws x := by
  refine ⟨ra.first.imp fun k t x => atom_fTok, fun R ι' i μ s ok sg nx h => ?_⟩
  have hw : ∃ k t y, WordV ι' (R.at i) k t y ∧ (k == s_con) = false ∧ (k == s_varsym && t == h_12) = false ∧ ((k == s_special && t == h_13) = false ∨ i + 1 < R.ws.length ∧ ∃ k' t' x', WordV ι' (R.at (i + 1)) k' t' x' ∧ symTok k' t' = false) := by
    rcases hf with hf | ⟨v, r, y, rfl, hw, hf⟩
    · refine oEEEEEAA hf ?_; clear hf; intro v r k t y zo5 hw hp; obtain rfl := zo5
      refine oAA (plain_parts hp) fun a b d => ?_
      obtain ⟨rfl, _⟩ := sg.head
      exact ⟨k, t, y, hw.mono s, b, atom_neg a, .inl d⟩
    · refine oAA sg.head fun zo0 _ sg1 => ?_; obtain rfl := zo0
      refine oEEEEEAA hf ?_; clear hf; intro v2 r2 k2 t2 y2 zo5 hw2 hp; obtain rfl := zo5
      refine oAA sg1.head fun zo0 hi2 _ => ?_; obtain rfl := zo0
      exact ⟨_, _, y, hw.mono s, by rfl, by rfl, .inr ⟨hi2, k2, t2, y2, hw2.mono s, by have hp' : (!symTok k2 t2) = true := hp; cases e : symTok k2 t2 with | false => rfl | true => rw [e] at hp'; cases hp'⟩⟩
  refine oEEEAAA hw ?_; clear hw; intro k0 t0 x0 w0 n1 n0 hb
  refine' Spec.intro (k := _) (loc := [(s_cursor, .ref R.xc)]) hd.z780 hd.z779 ?ho ?hob ?hco' ?hcd ?hbind ?hloc ?hco ?hgen ?hk ?hcell ?hb
  walk_at "M.fn"
  intro c ρ O
  walk_at "rw"
  refine W.c_peek O h ok (Nat.le_trans (by decide) hK) fun ι₁ s₁ => ?_
  have w1 := w0.mono s₁
  have ok1 := ok.mono s₁
  walk_at "rw"
  refine W.w_is_word O w1 (Nat.le_trans (by decide) hK) fun ι₂ s₂ => ?_
  have ok2 := ok1.mono s₂
  have w2 := w1.mono s₂
  have s12 := Sub.trans s₁ s₂
  refine W.truthyB (W.iteF n0 ?_)
  walk_at "rw"
  refine W.c_noName O h ok2 w2 n1 (hb.imp id fun ⟨a, k', t', x', b, d⟩ => ⟨a, k', t', x', b.mono s12, d⟩) (Nat.le_trans (by decide) hK) fun ι₃ μ₃ s₃ h₃ => ?_
  have s13 := Sub.trans s12 s₃
  have ok3 := ok2.mono s₃
  walk_at "rw"
  refine W.c_atom O h₃ ok3 (ra.mono (Sub.trans s s13)) sg ((nx.mono s13).imp fun k t x h => by rw [eP, Bool.and_eq_true] at h; exact h.1) (Nat.le_refl _) fun r ι₄ μ₄ s₄ hr h₄ => ?_
  exact Ends.ret (Sub.trans s13 s₄) ⟨hr, h₄⟩
theorem row_OpN {ι : Led} {v : Value} {n : Str} (h : OpN ι v n) : HasRow 1 ι v (.tuple [.str s_op, .str n, .bool true]) := by refine oEE h ?_; clear h; intro p u I; exact row_Op I
theorem OpSeg.first {ι : Led} {ws : List Value} {n : Str} (h : OpSeg ι ws n) : First (fun k t x => opTok k t && eP k t x) ι ws := by
  cases h with
  | colon a => exact ⟨_, _, _, _, _, rfl, a, by kernel_rfl!⟩
  | sym a b => exact ⟨_, _, _, _, _, rfl, a, by kernel_rfl!⟩
  | tick a _ _ _ => exact ⟨_, _, _, _, _, rfl, a, by kernel_rfl!⟩
section
variable {c : Cx} {sc : Scope} {m : Lc} {μ ι ρ : Led} {k : Nat}
theorem W.c_part {R : Rd} {i K J : Nat} {ws : List Value} {y : PyData} {Q : Po Value} (O : c.Ok sc k) (h : Cur R i μ) (ok : R.Ok ι) (ra : RPart K J ι ws y) (sg : Seg R i ws) (nx : Nx eP R ι (i + ws.length)) (hk : K ≤ k)
    (q : ∀ r ι' μ', Sub ι ι' → HasRow J ι' r y → Cur R (i + ws.length) μ' → Q r m (μ' ++ ρ) ι') : c.W (PySem.call (.ref 780) [.ref R.xc]) Q m (μ ++ ρ) ι :=
  W.callS (ra.read R ι i μ Sub.refl ok sg nx h) O hk fun r μ' ι' s g => q r ι' μ' s g.1 g.2
theorem W.c_pat {R : Rd} {i K J : Nat} {ws : List Value} {y : PyData} {Q : Po Value} (O : c.Ok sc k) (h : Cur R i μ) (ok : R.Ok ι) (ra : RPat K J ι ws y) (sg : Seg R i ws) (nx : Nx eQ R ι (i + ws.length)) (hk : K ≤ k)
    (q : ∀ r ι' μ', Sub ι ι' → HasRow J ι' r y → Cur R (i + ws.length) μ' → Q r m (μ' ++ ρ) ι') : c.W (PySem.call (.ref 759) [.ref R.xc]) Q m (μ ++ ρ) ι :=
  W.callS (ra.read R ι i μ Sub.refl ok sg nx h) O hk fun r μ' ι' s g => q r ι' μ' s g.1 g.2
theorem W.c_isOp {R : Rd} {i : Nat} {a t : Str} {x : Value} {Q : Po Value} (O : c.Ok sc k) (h : Cur R i μ) (ok : R.Ok ι) (hw : WordV ι (R.at i) a t x) (hk : 3 ≤ k)
    (q : ∀ ι', Sub ι ι' → Q (.bool (opTok a t)) m (μ ++ ρ) ι') : c.W (PySem.call (.ref 766) [.ref R.xc]) Q m (μ ++ ρ) ι :=
  W.callS (is_con_operator h ok hw) O hk fun r μ' ι' s g => by obtain ⟨rfl, rfl⟩ := g; exact q ι' s
end
structure Tail where
  ow : List Value
  n : Str
  pw : List Value
  row : PyData
noncomputable abbrev Tail.ws (t : Tail) : List Value := t.ow ++ t.pw
noncomputable abbrev Tail.rows (t : Tail) : List PyData := [.tuple [.str s_op, .str t.n, .bool true], t.row]
noncomputable def patRow (x : PyData) (ts : List Tail) : PyData := match ts with
  | [] => x
  | _ => .tuple [.str s_pinfix, .tuple (x :: ts.flatMap Tail.rows)]
theorem pat_of {K J : Nat} {ι : Led} {pw : List Value} {x : PyData} {ts : List Tail} (hK : 6 ≤ K) (hJ : 1 ≤ J) (hp : RPart K J ι pw x) (ht : ∀ t ∈ ts, OpSeg ι t.ow t.n ∧ RPart K J ι t.pw t.row) (hsz : ts.length < 1000) :
    RPat (K + 1) (J + 2) ι (pw ++ ts.flatMap Tail.ws) (patRow x ts) := by
  refine ⟨?_, fun R ι' i μ s ok sg nx h => ?_⟩
  · refine oEEEEEAA hp.first fun v r k t y zo5 a b => ?_; obtain rfl := zo5
    exact ⟨v, _, k, t, y, rfl, a, b⟩
  obtain ⟨sg1, sg2⟩ := sg.app
  rw [List.length_append, ← Nat.add_assoc] at nx
  refine oEEEA ((hp.first.mono s).nx sg1) fun k0 t0 x0 w0 _ => ?_
  have nxP : ∀ ι₁, Sub ι' ι₁ → ∀ (todo : List Tail) (j : Nat), (∀ t ∈ todo, t ∈ ts) → Seg R j (todo.flatMap Tail.ws) → j + (todo.flatMap Tail.ws).length = i + pw.length + (ts.flatMap Tail.ws).length → Nx eP R ι₁ j := by
    intro ι₁ s₁ todo j hm sg e
    cases todo with
    | nil =>
      have z := (nx.mono s₁).imp (P' := eP) fun k t x h => by rw [eQ, Bool.and_eq_true] at h; exact h.1
      rw [← e] at z
      simpa using z
    | cons b todo =>
      simp only [List.flatMap_cons, List.append_assoc] at sg
      exact (((ht b (hm b (.head _))).1.mono (Sub.trans s s₁)).first.nx sg.app.1).imp fun k t x h => by rw [Bool.and_eq_true] at h; exact h.2
  refine' Spec.intro (k := _) (loc := [(s_cursor, .ref R.xc)]) hd.z759 hd.z758 ?ho ?hob ?hco' ?hcd ?hbind ?hloc ?hco ?hgen ?hk ?hcell ?hb
  walk_at "M.fn"
  intro c ρ O
  walk_at "rw"
  refine W.c_place O h ok w0 (Nat.le_trans (by decide) hK) fun p ι₁ s₁ => ?_
  have ok1 := ok.mono s₁
  walk_at "rw"
  refine W.c_part O h ok1 (hp.mono (Sub.trans s s₁)) sg1 (nxP ι₁ s₁ ts _ (fun _ h => h) sg2 rfl) (Nat.le_refl _) fun r ι₂ μ₂ s₂ hr₂ h₂ => ?_
  have ok2 := ok1.mono s₂
  have s12 := Sub.trans s₁ s₂
  walk_at "rw"
  refine W.listP (μ₁ := μ₂) (by walk_at "M.sz") fun l o ho => ?_
  refine W.while_ (fun n' m' μ' ι₄ => ∃ (done todo : List Tail) (us : List (Value × PyData)) (μc : Led) (o : Obj) (i' : Nat) (m₀ : Lc), ts = done ++ todo ∧ todo.length = n' ∧ m' = (s_items, .ref l) :: (s_place, .ref p) :: m₀ ∧ At s_cursor (.ref R.xc) m₀ ∧ μ' = μc ++ (l, o) :: ρ ∧ Cur R i' μc ∧ PObj o (us.map (·.1)) ∧ us.map (·.2) = x :: done.flatMap Tail.rows ∧
      (∀ p ∈ us, HasRow J ι₄ p.1 p.2) ∧ i' + (todo.flatMap Tail.ws).length = i + pw.length + (ts.flatMap Tail.ws).length ∧ Seg R i' (todo.flatMap Tail.ws) ∧ Sub ι₂ ι₄ ∧ us.length = 2 * done.length + 1) (n₀ := ts.length)
    ⟨[], ts, [(r, x)], μ₂, o, i + pw.length, _, rfl, rfl, rfl, .here, rfl, h₂, ho, rfl, by simpa using hr₂, rfl, sg2, Sub.refl, rfl⟩ fun n' m' μ' ι₄ j => ?_
  refine oEEEEEEEAA j ?_; clear j; intro done todo us μc o i' m₀ e1 e2 zz; refine oAAAAAAAAA zz ?_; clear zz; intro zo9 e4 zo11 hc hpo e5 hr e6 sg3 zz; refine oA zz ?_; clear zz; intro s₄ hlen; obtain rfl := zo9; obtain rfl := zo11
  have ok4 := ok2.mono s₄
  have s14 := Sub.trans s12 s₄
  have hdl : done.length ≤ ts.length := by rw [e1]; simp
  have hS : sizeLine = 16777216 := sizeLine_eq
  cases todo with
  | nil =>
    simp only [List.flatMap_nil, List.length_nil, Nat.add_zero] at e6
    refine oEEEA (nx.mono s14) fun k5 t5 x5 w5 e7 => ?_
    rw [← e6] at w5
    walk_at "rw"
    refine W.c_isOp O hc ok4 w5 (Nat.le_trans (by decide) hK) fun ι₅ s₅ => ?_
    have e8 : opTok k5 t5 = false := by
      cases e : opTok k5 t5 with
      | false => rfl
      | true => rw [eQ, e, Bool.not_true, Bool.and_false] at e7; cases e7
    refine W.truthyB (W.iteF e8 ?_)
    have hr' : ∀ p ∈ us, HasRow J ι₅ p.1 p.2 := fun p hp => (hr p hp).mono s₅
    rw [List.append_nil] at e1
    subst e1
    have s15 := Sub.trans s14 s₅
    refine W.freezeL hpo fun ι₇ s₇ hl => ?_
    have hr7 : ∀ p ∈ us, HasRow J ι₇ p.1 p.2 := fun p hp => (hr' p hp).mono s₇
    walk_at "rw"
    refine W.len_ hl (by rw [List.length_map]; walk_at "o") fun _ => ?_
    walk_at "rw"
    show ite _ _ _
    have e9 : i + (pw ++ ts.flatMap Tail.ws).length = i' := by rw [List.length_append, ← Nat.add_assoc, ← e6]
    cases ts with
    | nil =>
      obtain ⟨u, rfl⟩ := List.length_eq_one_iff.mp (show us.length = 1 by simpa using hlen)
      refine W.iteT (by rfl) ?_
      walk_at "rw"
      refine W.item_ hl (by decide) (by decide) (x := u.1) (by rfl) ?_
      refine Ends.ret (Sub.trans s15 s₇) ⟨?_, by rw [e9]; exact hc⟩
      have e5' : u.2 = x := by simpa using e5
      have z := hr7 u (.head _)
      rw [e5'] at z
      exact z.more (Nat.le_add_right _ _)
    | cons t0 ts =>
      refine W.iteF (by rw [List.length_map, hlen]; simp only [List.length_cons]; rw [beq_eq_false_iff_ne]; walk_at "o") ?_
      walk_at "rw"
      refine W.new_PInfix_p O (Nat.le_trans (by decide) hK) fun v ι₈ s₈ I => ?_
      refine Ends.ret (Sub.trans s15 (Sub.trans s₇ s₈)) ⟨?_, by rw [e9]; exact hc⟩
      have z := row_PInfix (us := us) (K := J) I (hl.mono s₈) (fun p hp => (hr7 p hp).mono s₈) (by walk_at "o")
      rw [e5] at z
      exact z
  | cons a todo =>
    obtain ⟨ho, ha⟩ := ht a (by rw [e1]; simp)
    simp only [List.flatMap_cons, List.append_assoc] at sg3
    obtain ⟨sg4, sg5⟩ := sg3.app
    obtain ⟨sg6, sg7⟩ := sg5.app
    refine oEEEA ((ho.mono (Sub.trans s s14)).first.nx sg4) fun k5 t5 x5 w5 e7 => ?_
    rw [Bool.and_eq_true] at e7
    walk_at "rw"
    refine W.c_isOp O hc ok4 w5 (Nat.le_trans (by decide) hK) fun ι₅ s₅ => ?_
    refine W.truthyB (W.iteT e7.1 ?_)
    have ok5 := ok4.mono s₅
    have s15 := Sub.trans s14 s₅
    walk_at "rw"
    refine W.c_oper O hc ok5 sg4 (ho.mono (Sub.trans s s15)) (Nat.le_trans (by decide) hK) fun r1 ι₆ μ₆ s₆ hr₆ h₆ => ?_
    have ok6 := ok5.mono s₆
    have s16 := Sub.trans s15 s₆
    walk_at "rw"
    refine W.append (μ₁ := μ₆) hpo (by rw [List.length_map]; walk_at "o") fun o1 hp1 => ?_
    walk_at "rw"
    refine W.c_part O h₆ ok6 (ha.mono (Sub.trans s s16)) sg6 (nxP ι₆ s16 todo _ (fun t h => by rw [e1]; simp [h]) sg7 (by simp only [List.flatMap_cons, List.length_append] at e6 ⊢; walk_at "o")) (Nat.le_refl _) fun r2 ι₈ μ₈ s₈ hr₈ h₈ => ?_
    walk_at "rw"
    refine W.append (μ₁ := μ₈) hp1 (by simp; walk_at "o") fun o2 hp2 => ?_
    walk_at "rw"
    refine ⟨rfl, todo.length, by rw [← e2]; exact Nat.lt_succ_self _, done ++ [a], todo, us ++ [(r1, .tuple [.str s_op, .str a.n, .bool true]), (r2, a.row)], μ₈, o2, i' + a.ow.length + a.pw.length, m₀, by rw [e1]; simp, rfl, rfl, e4, rfl, h₈, by simpa using hp2, by simp [e5], ?_, ?_, sg7, Sub.trans s₄ (Sub.trans s₅ (Sub.trans s₆ s₈)), by simp; walk_at "o"⟩
    · intro p hp
      rcases List.mem_append.mp hp with hp | hp
      · exact (hr p hp).mono (Sub.trans s₅ (Sub.trans s₆ s₈))
      · rcases List.mem_cons.mp hp with rfl | hp
        · exact ((row_OpN hr₆).mono s₈).more hJ
        · rw [List.mem_singleton.mp hp]; exact hr₈
    · simp only [List.flatMap_cons, List.length_append] at e6 ⊢; walk_at "o"
structure Nextp where
  cw : Value
  pw : List Value
  row : PyData
noncomputable abbrev Nextp.ws (t : Nextp) : List Value := t.cw :: t.pw
noncomputable def eC (k t : Str) (x : Value) : Bool := eQ k t x && !(k == s_special && t == h_5)
theorem read_several {K J : Nat} {ι : Led} {pw : List Value} {x : PyData} {ts : List Nextp} {R : Rd} {i : Nat} {μ ι' : Led} (hK : 6 ≤ K) (hp : RPat K J ι pw x) (ht : ∀ t ∈ ts, (∃ y, WordV ι t.cw s_special h_5 y) ∧ RPat K J ι t.pw t.row) (hsz : ts.length < 1000)
    (s : Sub ι ι') (ok : R.Ok ι') (sg : Seg R i (pw ++ ts.flatMap Nextp.ws)) (nx : Nx eC R ι' (i + (pw ++ ts.flatMap Nextp.ws).length)) (h : Cur R i μ) :
    Spec (K + 1) 815 [.ref R.xc] μ ι' (Moves R (i + (pw ++ ts.flatMap Nextp.ws).length) fun r ι'' => ∃ us : List (Value × PyData), ListF ι'' r (us.map (·.1)) ∧ us.map (·.2) = x :: ts.map (·.row) ∧ ∀ p ∈ us, HasRow J ι'' p.1 p.2) := by
  obtain ⟨sg1, sg2⟩ := sg.app
  rw [List.length_append, ← Nat.add_assoc] at nx ⊢
  have nxP : ∀ ι₁, Sub ι' ι₁ → ∀ (todo : List Nextp) (j : Nat), (∀ t ∈ todo, t ∈ ts) → Seg R j (todo.flatMap Nextp.ws) → j + (todo.flatMap Nextp.ws).length = i + pw.length + (ts.flatMap Nextp.ws).length → Nx eQ R ι₁ j := by
    intro ι₁ s₁ todo j hm sg e
    cases todo with
    | nil =>
      have z := (nx.mono s₁).imp (P' := eQ) fun k t x h => by rw [eC, Bool.and_eq_true] at h; exact h.1
      rw [← e] at z
      simpa using z
    | cons b todo =>
      obtain ⟨⟨y, w⟩, -⟩ := ht b (hm b (.head _))
      simp only [List.flatMap_cons] at sg
      obtain ⟨e1, -⟩ := Seg.head (v := b.cw) (ws := b.pw ++ todo.flatMap Nextp.ws) sg
      exact ⟨_, _, _, e1 ▸ (w.mono (Sub.trans s s₁)), by kernel_rfl!⟩
  refine' Spec.intro (k := _) (loc := [(s_cursor, .ref R.xc)]) hd.z815 hd.z814 ?ho ?hob ?hco' ?hcd ?hbind ?hloc ?hco ?hgen ?hk ?hcell ?hb
  walk_at "M.fn"
  intro c ρ O
  walk_at "rw"
  refine W.c_pat O h ok (hp.mono s) sg1 (nxP ι' Sub.refl ts _ (fun _ h => h) sg2 rfl) (Nat.le_refl _) fun r ι₂ μ₂ s₂ hr₂ h₂ => ?_
  have ok2 := ok.mono s₂
  walk_at "rw"
  refine W.listP (μ₁ := μ₂) (by walk_at "M.sz") fun l o ho => ?_
  refine W.while_ (fun n' m' μ' ι₄ => ∃ (done todo : List Nextp) (us : List (Value × PyData)) (μc : Led) (o : Obj) (i' : Nat) (m₀ : Lc), ts = done ++ todo ∧ todo.length = n' ∧ m' = (s_found, .ref l) :: m₀ ∧ At s_cursor (.ref R.xc) m₀ ∧ μ' = μc ++ (l, o) :: ρ ∧ Cur R i' μc ∧ PObj o (us.map (·.1)) ∧ us.map (·.2) = x :: done.map (·.row) ∧
      (∀ p ∈ us, HasRow J ι₄ p.1 p.2) ∧ i' + (todo.flatMap Nextp.ws).length = i + pw.length + (ts.flatMap Nextp.ws).length ∧ Seg R i' (todo.flatMap Nextp.ws) ∧ Sub ι₂ ι₄ ∧ us.length = done.length + 1) (n₀ := ts.length)
    ⟨[], ts, [(r, x)], μ₂, o, i + pw.length, _, rfl, rfl, rfl, .here, rfl, h₂, ho, rfl, by simpa using hr₂, rfl, sg2, Sub.refl, rfl⟩ fun n' m' μ' ι₄ j => ?_
  refine oEEEEEEEAA j ?_; clear j; intro done todo us μc o i' m₀ e1 e2 zz; refine oAAAAAAAAA zz ?_; clear zz; intro zo9 e4 zo11 hc hpo e5 hr e6 sg3 zz; refine oA zz ?_; clear zz; intro s₄ hlen; obtain rfl := zo9; obtain rfl := zo11
  have ok4 := ok2.mono s₄
  have s14 := Sub.trans s₂ s₄
  have hdl : done.length ≤ ts.length := by rw [e1]; simp
  have hS : sizeLine = 16777216 := sizeLine_eq
  cases todo with
  | nil =>
    simp only [List.flatMap_nil, List.length_nil, Nat.add_zero] at e6
    refine oEEEA (nx.mono s14) fun k5 t5 x5 w5 e7 => ?_
    rw [← e6] at w5
    have e8 : (k5 == s_special && t5 == h_5) = false := by
      cases e : (k5 == s_special && t5 == h_5) with
      | false => rfl
      | true => rw [eC, e, Bool.not_true, Bool.and_false] at e7; cases e7
    walk_at "rw"
    refine W.c_take O hc ok4 w5 (fun z => by rw [e8] at z; cases z) (Nat.le_trans (by decide) hK) fun ι₅ μ₅ s₅ h₅ => ?_
    rw [e8] at h₅
    replace h₅ : Cur R i' μ₅ := h₅
    refine W.truthyB (W.iteF e8 ?_)
    rw [List.append_nil] at e1
    subst e1
    walk_at "rw"
    refine Ends.retF (Sub.trans s14 s₅) ⟨⟨us, ⟨l, o, rfl, .head _, hpo.lobj⟩, e5, fun p hp => (hr p hp).mono (Sub.trans s₅ Sub.cons)⟩, by rw [← e6]; exact h₅⟩
  | cons a todo =>
    obtain ⟨⟨y, hw⟩, ha⟩ := ht a (by rw [e1]; simp)
    simp only [List.flatMap_cons] at sg3 e6
    refine oAA (Seg.head (v := a.cw) (ws := a.pw ++ todo.flatMap Nextp.ws) sg3) fun e9 hi sg4 => ?_
    obtain ⟨sg5, sg6⟩ := sg4.app
    have w5 := hw.mono (Sub.trans s s14)
    rw [← e9] at w5
    walk_at "rw"
    refine W.c_take O hc ok4 w5 (fun _ => hi) (Nat.le_trans (by decide) hK) fun ι₅ μ₅ s₅ h₅ => ?_
    replace h₅ : Cur R (i' + 1) μ₅ := h₅
    refine W.truthyB (W.iteT (by rfl) ?_)
    have ok5 := ok4.mono s₅
    have s15 := Sub.trans s14 s₅
    walk_at "rw"
    refine W.c_pat O h₅ ok5 (ha.mono (Sub.trans s s15)) sg5 (nxP ι₅ s15 todo _ (fun t h => by rw [e1]; simp [h]) sg6 (by simp only [List.flatMap_cons, List.length_append, List.length_cons] at e6 ⊢; walk_at "o")) (Nat.le_refl _) fun r2 ι₈ μ₈ s₈ hr₈ h₈ => ?_
    walk_at "rw"
    refine W.append (μ₁ := μ₈) hpo (by rw [List.length_map]; walk_at "o") fun o2 hp2 => ?_
    walk_at "rw"
    refine ⟨rfl, todo.length, by rw [← e2]; exact Nat.lt_succ_self _, done ++ [a], todo, us ++ [(r2, a.row)], μ₈, o2, i' + 1 + a.pw.length, m₀, by rw [e1]; simp, rfl, rfl, e4, rfl, h₈, by simpa using hp2, by simp [e5], ?_, ?_, sg6, Sub.trans s₄ (Sub.trans s₅ s₈), by simp; walk_at "o"⟩
    · intro p hp
      rcases List.mem_append.mp hp with hp | hp
      · exact (hr p hp).mono (Sub.trans s₅ s₈)
      · rw [List.mem_singleton.mp hp]; exact hr₈
    · simp only [List.flatMap_cons, List.length_append, List.length_cons] at e6 ⊢; walk_at "o"
section
variable {c : Cx} {sc : Scope} {m : Lc} {μ ι ρ : Led} {k : Nat}
theorem W.c_several {K J : Nat} {pw : List Value} {x : PyData} {ts : List Nextp} {R : Rd} {i : Nat} {Q : Po Value} (O : c.Ok sc k) (hK : 6 ≤ K) (hp : RPat K J ι pw x) (ht : ∀ t ∈ ts, (∃ y, WordV ι t.cw s_special h_5 y) ∧ RPat K J ι t.pw t.row) (hsz : ts.length < 1000)
    (ok : R.Ok ι) (sg : Seg R i (pw ++ ts.flatMap Nextp.ws)) (nx : Nx eC R ι (i + (pw ++ ts.flatMap Nextp.ws).length)) (h : Cur R i μ) (hk : K + 1 ≤ k)
    (q : ∀ r ι' μ' (us : List (Value × PyData)), Sub ι ι' → ListF ι' r (us.map (·.1)) → us.map (·.2) = x :: ts.map (·.row) → (∀ p ∈ us, HasRow J ι' p.1 p.2) → Cur R (i + (pw ++ ts.flatMap Nextp.ws).length) μ' → Q r m (μ' ++ ρ) ι') : c.W (PySem.call (.ref 815) [.ref R.xc]) Q m (μ ++ ρ) ι :=
  W.callS (read_several hK hp ht hsz Sub.refl ok sg nx h) O hk fun r μ' ι' s g => by obtain ⟨⟨us, a, b, d⟩, e⟩ := g; exact q r ι' μ' us s a b d e
end
theorem fTok_not {k t : Str} {x : Value} (h : fTok k t x = true) : symTok k t = false ∧ (k == s_special && t == h_3) = false ∧ (k == s_special && t == h_4) = false := by
  unfold fTok at h
  cases a : symTok k t <;> cases b : (k == s_special) <;> cases d : (t == h_3) <;> cases e : (t == h_4) <;> simp_all
noncomputable def mRow (x : PyData) (ts : List Nextp) : List PyData := x :: ts.map (·.row)
noncomputable def bracRow (x : PyData) (ts : List Nextp) : PyData := match ts with | [] => .tuple [.str s_pparen, x] | _ => .tuple [.str s_ptuple, .tuple (mRow x ts)]
theorem read_list {K J : Nat} {ι : Led} {v2 : Value} {y2 : Value} {pw : List Value} {x : PyData} {ts : List Nextp} (hK : 6 ≤ K) (w2 : WordV ι v2 s_special h_4 y2) (hp : RPat K J ι pw x) (ht : ∀ t ∈ ts, (∃ y, WordV ι t.cw s_special h_5 y) ∧ RPat K J ι t.pw t.row) (hsz : ts.length < 1000) {R : Rd} {i : Nat} {ι' ι₃ μ₃ : Led} {p : Addr} (s : Sub ι ι') (ok : R.Ok ι') (sg2 : Seg R (i + 1) (pw ++ ts.flatMap Nextp.ws)) (sg3 : Seg R (i + 1 + (pw ++ ts.flatMap Nextp.ws).length) [v2]) (s₃ : Sub ι' ι₃) (h₃ : Cur R (i + 1) μ₃) :
    Spec (K + 2) 822 [.ref R.xc, .ref p] μ₃ ι₃ (Moves R (i + ((pw ++ ts.flatMap Nextp.ws) ++ [v2]).length + 1) fun r ι'' => HasRow (J + 2) ι'' r (.tuple [.str s_plist, .tuple (mRow x ts)])) := by
  refine oAA sg3.head fun e3 hi3 _ => ?_
  have ok3 := ok.mono s₃
  have s' := Sub.trans s s₃
  refine oEEEA ((hp.first.mono s').nx sg2.app.1) fun k4 t4 x4 w4 f4 => ?_
  refine oAA (fTok_not f4) fun _ _ f5 => ?_
  refine' Spec.intro (k := (K+1)) (loc := [(s_place, .ref p), (s_cursor, .ref R.xc)]) hd.z822 hd.z821 ?ho ?hob ?hco' ?hcd ?hbind ?hloc ?hco ?hgen ?hk ?hcell ?hb
  walk_at "M.fn"
  intro c ρ O
  walk_at "rw"
  refine W.c_take O h₃ ok3 w4 (fun z => by rw [f5] at z; cases z) (by walk_at "o") fun ι₄ μ₄ s₄ h₄ => ?_
  rw [f5] at h₄
  replace h₄ : Cur R (i + 1) μ₄ := h₄
  refine W.truthyB (W.iteF f5 ?_)
  have ok4 := ok3.mono s₄
  have s4' := Sub.trans s' s₄
  have nx4 : Nx eC R ι₄ (i + 1 + (pw ++ ts.flatMap Nextp.ws).length) := ⟨_, _, _, by rw [e3]; exact w2.mono s4', by kernel_rfl!⟩
  walk_at "rw"
  refine W.c_several O hK (hp.mono s4') (fun t h => ⟨let ⟨y, w⟩ := (ht t h).1; ⟨y, w.mono s4'⟩, (ht t h).2.mono s4'⟩) hsz ok4 sg2 nx4 h₄ (Nat.le_refl _) fun r ι₅ μ₅ us s₅ hl e5 hr h₅ => ?_
  have ok5 := ok4.mono s₅
  walk_at "rw"
  have w5 : WordV ι₅ (R.at (i + 1 + (pw ++ ts.flatMap Nextp.ws).length)) s_special h_4 y2 := by rw [e3]; exact w2.mono (Sub.trans s4' s₅)
  refine W.c_want O h₅ ok5 w5 hi3 (.inr ⟨_, rfl⟩) [_] (.inl rfl) (by walk_at "o") fun ι₆ μ₆ s₆ h₆ => ?_
  walk_at "rw"
  refine W.new_PList_p O (by walk_at "o") fun v ι₇ s₇ I => ?_
  have hlen : us.length = ts.length + 1 := by simpa using congrArg List.length e5
  have hS : sizeLine = 16777216 := sizeLine_eq
  refine Ends.ret (Sub.trans s₄ (Sub.trans s₅ (Sub.trans s₆ s₇))) ⟨?_, ?_⟩
  · have z := row_PList (us := us) (K := J) I (hl.mono (Sub.trans s₆ s₇)) (fun p hp => (hr p hp).mono (Sub.trans s₆ s₇)) (by walk_at "o")
    rw [e5] at z
    exact z
  · rw [show i + ((pw ++ ts.flatMap Nextp.ws) ++ [v2]).length + 1 = i + 1 + (pw ++ ts.flatMap Nextp.ws).length + 1 by simp; walk_at "o"]
    exact h₆
theorem atom_list {K J : Nat} {ι : Led} {v1 v2 : Value} {y1 y2 : Value} {pw : List Value} {x : PyData} {ts : List Nextp} (hK : 6 ≤ K) (w1 : WordV ι v1 s_special h_14 y1) (w2 : WordV ι v2 s_special h_4 y2) (hp : RPat K J ι pw x) (ht : ∀ t ∈ ts, (∃ y, WordV ι t.cw s_special h_5 y) ∧ RPat K J ι t.pw t.row) (hsz : ts.length < 1000) :
    RAtom (K + 3) (J + 2) ι (v1 :: ((pw ++ ts.flatMap Nextp.ws) ++ [v2])) (.tuple [.str s_plist, .tuple (mRow x ts)]) := by
  refine ⟨⟨v1, _, _, _, _, rfl, w1, by rfl⟩, fun R ι' i μ s ok sg nx h => ?_⟩
  refine oAA sg.head fun zo0 hi sg1 => ?_; obtain rfl := zo0
  obtain ⟨sg2, sg3⟩ := sg1.app
  refine' Spec.intro (k := _) (loc := [(s_cursor, .ref R.xc)]) hd.z808 hd.z807 ?ho ?hob ?hco' ?hcd ?hbind ?hloc ?hco ?hgen ?hk ?hcell ?hb
  walk_at "M.fn"
  intro c ρ O
  have w1 := w1.mono s
  walk_at "rw"
  refine W.c_atomQ O h ok w1 (by walk_at "o") fun ι₁ s₁ => ?_
  walk_at "rw"
  have ok1 := ok.mono s₁
  refine W.c_next O h ok1 hi (by walk_at "o") fun ι₂ μ₂ s₂ h₂ => ?_
  have w1 := w1.mono (Sub.trans s₁ s₂)
  have ok2 := ok1.mono s₂
  walk_at "rw"
  refine W.w_place O w1 (by walk_at "o") fun p ι₃ s₃ => ?_
  have w1 := w1.mono s₃
  have s123 := Sub.trans s₁ (Sub.trans s₂ s₃)
  walk_at "rw"
  refine W.inK O litsK ?_
  walk_at "rw"
  refine W.callS (read_list hK w2 hp ht hsz s ok sg2 sg3 s123 h₂) O (Nat.le_refl _) fun r μ' ι'' s' g => Ends.ret (Sub.trans s123 s') ?_
  rw [List.length_cons, ← Nat.add_assoc]
  exact g
theorem read_brac {K J : Nat} {ι : Led} {v2 : Value} {y2 : Value} {pw : List Value} {x : PyData} {ts : List Nextp} (hK : 6 ≤ K) (w2 : WordV ι v2 s_special h_3 y2) (hp : RPat K J ι pw x) (ht : ∀ t ∈ ts, (∃ y, WordV ι t.cw s_special h_5 y) ∧ RPat K J ι t.pw t.row) (hsz : ts.length < 1000) {R : Rd} {i : Nat} {ι' ι₃ μ₃ : Led} {p : Addr} (s : Sub ι ι') (ok : R.Ok ι') (sg2 : Seg R (i + 1) (pw ++ ts.flatMap Nextp.ws)) (sg3 : Seg R (i + 1 + (pw ++ ts.flatMap Nextp.ws).length) [v2]) (s₃ : Sub ι' ι₃) (h₃ : Cur R (i + 1) μ₃) :
    Spec (K + 2) 829 [.ref R.xc, .ref p] μ₃ ι₃ (Moves R (i + ((pw ++ ts.flatMap Nextp.ws) ++ [v2]).length + 1) fun r ι'' => HasRow (J + 2) ι'' r (bracRow x ts)) := by
  refine oAA sg3.head fun e3 hi3 _ => ?_
  have ok3 := ok.mono s₃
  have s' := Sub.trans s s₃
  refine oEEEA ((hp.first.mono s').nx sg2.app.1) fun k4 t4 x4 w4 f4 => ?_
  refine oAA (fTok_not f4) fun _ f5 _ => ?_
  refine' Spec.intro (k := (K+1)) (loc := [(s_place, .ref p), (s_cursor, .ref R.xc)]) hd.z829 hd.z828 ?ho ?hob ?hco' ?hcd ?hbind ?hloc ?hco ?hgen ?hk ?hcell ?hb
  walk_at "M.fn"
  intro c ρ O
  walk_at "rw"
  refine W.c_take O h₃ ok3 w4 (fun z => by rw [f5] at z; cases z) (by walk_at "o") fun ι₄ μ₄ s₄ h₄ => ?_
  rw [f5] at h₄
  replace h₄ : Cur R (i + 1) μ₄ := h₄
  refine W.truthyB (W.iteF f5 ?_)
  have ok4 := ok3.mono s₄
  have s4' := Sub.trans s' s₄
  have nx4 : Nx eC R ι₄ (i + 1 + (pw ++ ts.flatMap Nextp.ws).length) := ⟨_, _, _, by rw [e3]; exact w2.mono s4', by kernel_rfl!⟩
  walk_at "rw"
  refine W.c_several O hK (hp.mono s4') (fun t h => ⟨let ⟨y, w⟩ := (ht t h).1; ⟨y, w.mono s4'⟩, (ht t h).2.mono s4'⟩) hsz ok4 sg2 nx4 h₄ (Nat.le_refl _) fun r ι₅ μ₅ us s₅ hl e5 hr h₅ => ?_
  have ok5 := ok4.mono s₅
  walk_at "rw"
  have w5 : WordV ι₅ (R.at (i + 1 + (pw ++ ts.flatMap Nextp.ws).length)) s_special h_3 y2 := by rw [e3]; exact w2.mono (Sub.trans s4' s₅)
  refine W.c_want O h₅ ok5 w5 hi3 (.inr ⟨_, rfl⟩) [_] (.inl rfl) (by walk_at "o") fun ι₆ μ₆ s₆ h₆ => ?_
  have hl6 := hl.mono s₆
  have hlen : us.length = ts.length + 1 := by simpa using congrArg List.length e5
  have hS : sizeLine = 16777216 := sizeLine_eq
  have e6 : i + ((pw ++ ts.flatMap Nextp.ws) ++ [v2]).length + 1 = i + 1 + (pw ++ ts.flatMap Nextp.ws).length + 1 := by simp; walk_at "o"
  rw [e6]
  walk_at "rw"
  refine W.len_ hl6 (by rw [List.length_map]; walk_at "o") fun _ => ?_
  walk_at "rw"
  show ite _ _ _
  cases ts with
  | nil =>
    obtain ⟨u, rfl⟩ := List.length_eq_one_iff.mp (show us.length = 1 by simpa using hlen)
    refine W.iteT (by rfl) ?_
    walk_at "rw"
    refine W.item_ hl6 (by decide) (by decide) (x := u.1) (by rfl) ?_
    walk_at "rw"
    refine W.new_PParen_p O (by walk_at "o") fun v ι₇ s₇ I => ?_
    refine Ends.ret (Sub.trans s₄ (Sub.trans s₅ (Sub.trans s₆ s₇))) ⟨?_, h₆⟩
    have e5' : u.2 = x := by simpa using e5
    have z := row_PParen I ((hr u (.head _)).mono (Sub.trans s₆ s₇))
    rw [e5'] at z
    exact z.more (Nat.le_succ _)
  | cons t0 ts =>
    refine W.iteF (by rw [List.length_map, hlen]; simp only [List.length_cons]; rw [beq_eq_false_iff_ne]; walk_at "o") ?_
    walk_at "rw"
    refine W.new_PTuple_p O (by walk_at "o") fun v ι₇ s₇ I => ?_
    refine Ends.ret (Sub.trans s₄ (Sub.trans s₅ (Sub.trans s₆ s₇))) ⟨?_, h₆⟩
    have z := row_PTuple (us := us) (K := J) I (hl6.mono s₇) (fun p hp => (hr p hp).mono (Sub.trans s₆ s₇)) (by walk_at "o")
    rw [e5] at z
    exact z
theorem atom_brac {K J : Nat} {ι : Led} {v1 v2 : Value} {y1 y2 : Value} {pw : List Value} {x : PyData} {ts : List Nextp} (hK : 6 ≤ K) (w1 : WordV ι v1 s_special h_13 y1) (w2 : WordV ι v2 s_special h_3 y2) (hp : RPat K J ι pw x) (ht : ∀ t ∈ ts, (∃ y, WordV ι t.cw s_special h_5 y) ∧ RPat K J ι t.pw t.row) (hsz : ts.length < 1000) :
    RAtom (K + 3) (J + 2) ι (v1 :: ((pw ++ ts.flatMap Nextp.ws) ++ [v2])) (bracRow x ts) := by
  refine ⟨⟨v1, _, _, _, _, rfl, w1, by rfl⟩, fun R ι' i μ s ok sg nx h => ?_⟩
  refine oAA sg.head fun zo0 hi sg1 => ?_; obtain rfl := zo0
  obtain ⟨sg2, sg3⟩ := sg1.app
  refine' Spec.intro (k := _) (loc := [(s_cursor, .ref R.xc)]) hd.z808 hd.z807 ?ho ?hob ?hco' ?hcd ?hbind ?hloc ?hco ?hgen ?hk ?hcell ?hb
  walk_at "M.fn"
  intro c ρ O
  have w1 := w1.mono s
  walk_at "rw"
  refine W.c_atomQ O h ok w1 (by walk_at "o") fun ι₁ s₁ => ?_
  walk_at "rw"
  have ok1 := ok.mono s₁
  refine W.c_next O h ok1 hi (by walk_at "o") fun ι₂ μ₂ s₂ h₂ => ?_
  have w1 := w1.mono (Sub.trans s₁ s₂)
  have ok2 := ok1.mono s₂
  walk_at "rw"
  refine W.w_place O w1 (by walk_at "o") fun p ι₃ s₃ => ?_
  have w1 := w1.mono s₃
  have s123 := Sub.trans s₁ (Sub.trans s₂ s₃)
  walk_at "rw"
  refine W.inK O litsK ?_
  walk_at "rw"
  refine W.callS (read_brac hK w2 hp ht hsz s ok sg2 sg3 s123 h₂) O (Nat.le_refl _) fun r μ' ι'' s' g => Ends.ret (Sub.trans s123 s') ?_
  rw [List.length_cons, ← Nat.add_assoc]
  exact g
noncomputable abbrev KN : Params → Frag := frag [207, 206, 236, 235, 263, 262, 290, 289, 317, 316, 344, 343, 371, 370, 398, 397, 425, 424, 452, 451, 506, 505, 641, 640, 668, 667, 695, 694]
theorem kin_N : Kin KN := kin_frag _
noncomputable def isiOk (P : Params) (C : Addr) : Bool := (plainGet (KN P) C "__class__" && hasDictIn (KN P) C && decide (findIn (KN P) (.ref C) "__class__" = some (some (.builtin "object.__class__")))) &&
  (decide (specialIn (KN P) (.builtin "object.__class__") "__get__" = some (some (.builtin "getset_descriptor.__get__"))) && decide (takesIn (KN P) (.builtin "object.__class__") = some true) && decide (mroIn (KN P) C (.type "object") = some true))
structure IsiB (C : Addr) : Prop where
  ok : ∀ P, isiOk P C = true
theorem IsiB.own {C x : Addr} {ox od : Obj} (B : IsiB C) (P : Params) : KitX (KN P) (.ref x) (.ref C) (fun h => InstAt h x ox C (some od)) := by
  have h := B.ok P
  simp only [isiOk, Bool.and_eq_true, decide_eq_true_eq] at h
  refine oAA h ?_; clear h; intro zo0 zo1 g; obtain ⟨⟨a, b⟩, d⟩ := zo0; obtain ⟨e, f⟩ := zo1
  exact kitx_own a b d e f g
section
variable {c : Cx} {sc : Scope} {m : Lc} {μ ι ρ : Led} {k : Nat}
theorem W.isOne {v : Value} {C D : Addr} {fs : Lc} {b : Bool} {Q : Po Value} (O : c.Ok sc k) (I : InstF ι v C fs) (B : IsiB C) (e : ∀ P, kitOne (KN P) (.ref C) (.ref D) = some b) (q : Q (.bool b) m μ ι) : c.W (PySem.call (.builtin "isinstance") [v, .ref D]) Q m μ ι := .mk fun hp tk S => by
  refine oEEEEAAA I.ex fun x dx es n zo4 h1 h2 f => ?_; obtain rfl := zo4
  have X := kin_N _ _ (S.inK O)
  refine kia_one (B.own _) X (InstAt.of_news S.N (List.mem_append.mpr (.inr h1)) (List.mem_append.mpr (.inr h2))) (e _) (by intro z; cases z) fun tk' => S.same q
theorem W.isTup {v t : Value} {C : Addr} {fs : Lc} {cs : List Value} {b : Bool} {Q : Po Value} (O : c.Ok sc k) (I : InstF ι v C fs) (B : IsiB C) (ht : TupF ι t cs) (e : ∀ P, kitAny (KN P) (.ref C) cs = some b) (q : Q (.bool b) m μ ι) : c.W (PySem.call (.builtin "isinstance") [v, t]) Q m μ ι := .mk fun hp tk S => by
  refine oEEEEAAA I.ex fun x dx es n zo4 h1 h2 f => ?_; obtain rfl := zo4
  refine oEEA ht.ex fun tp k' zo2 h3 => ?_; obtain rfl := zo2
  have X := kin_N _ _ (S.inK O)
  refine kia_tup (B.own _) X (InstAt.of_news S.N (List.mem_append.mpr (.inr h1)) (List.mem_append.mpr (.inr h2))) (kitTp_N S.N (List.mem_append.mpr (.inr h3))) (e _) (by intro z; cases z) fun tk' => S.same q
theorem W.isNone {D : Addr} {Q : Po Value} (O : c.Ok sc k) (e : ∀ P, kitOne (KN P) (.type "NoneType") (.ref D) = some false) (q : Q (.bool false) m μ ι) : c.W (PySem.call (.builtin "isinstance") [.none, .ref D]) Q m μ ι := .mk fun hp tk S =>
  kia_one (kitx_none) (kin_N _ _ (S.inK O)) trivial (e _) (by intro z; cases z) fun tk' => S.same q
end
inductive IsK : Addr → Prop
  | n0 : IsK 236
  | n1 : IsK 263
  | n2 : IsK 290
  | n3 : IsK 317
  | n4 : IsK 344
  | n5 : IsK 371
  | n6 : IsK 398
  | n7 : IsK 425
  | n8 : IsK 452
  | n9 : IsK 506
  | n10 : IsK 641
  | n11 : IsK 668
  | n12 : IsK 695
theorem iB {C : Addr} (h : IsK C) : IsiB C := by cases h <;> exact ⟨fun P => by kernel_rfl⟩
local macro_rules | `(tactic| walk_at "M.isB") => `(tactic| exact iB (by constructor))
local macro_rules | `(tactic| walk_at "M.isi1") => `(tactic| ((case I => walk_at "M.fact"); (case B => walk_at "M.isB"); (case e => (intro P; kernel_rfl!))))
local macro_rules | `(tactic| walk_at "M.isi") => `(tactic| first
  | (refine' W.isOne (b := true) (by assumption) ?I ?B ?e ?q; walk_at "M.isi1")
  | (refine' W.isOne (b := false) (by assumption) ?I ?B ?e ?q; walk_at "M.isi1")
  | (refine' W.isTup (b := true) (by assumption) ?I ?B ?t ?e ?q; (case t => walk_at "M.fact"); walk_at "M.isi1")
  | (refine' W.isTup (b := false) (by assumption) ?I ?B ?t ?e ?q; (case t => walk_at "M.fact"); walk_at "M.isi1"))
local macro_rules | `(tactic| walk_at "M.x") => `(tactic| first
  | walk_at "M.w"
  | ((with_reducible show Cx.W _ (newTuple _) _ _ _ _); (with_reducible refine W.tup_ (by walk_at "M.sz") ?_); intros)
  | ((with_reducible show Cx.W _ (PySem.call (Value.builtin "isinstance") _) _ _ _ _); walk_at "M.isi"))
section
variable {c : Cx} {sc : Scope} {m : Lc} {μ ι ρ : Led} {k : Nat}
theorem W.notInS {x y : Str} {t u : Tok} {Q : Po Value} (q : Q (.bool (!Txt.contains x y)) m μ ι) : c.W (compareOp .NotIn (.str y u) (.str x t)) Q m μ ι := .mk fun hp tk S => SB.notContains (S.same q)
theorem W.itemS {value slice : Expr} {x : Str} {t : Tok} {i : Nat} {u : Tok} {Q : Po Value} (hi : i < x.length) (hs' : i < 1000) (q : ∀ t, Q (.str (Txt.item x i) t) m μ ι)
    (hs : subscripted slice false (.str x t) (.int (i : Int) u) = operate [.str x t, .int (i : Int) u] (getItem (.str x t) (.int (i : Int) u)) := by with_unfolding_all rfl)
    (hg : ∀ r, letTemporaryGo value (.str x t) r = pure () := by intro _; with_unfolding_all rfl) : c.W (subscriptTail value slice (.str x t) (.int (i : Int) u)) Q m μ ι := .mk fun hp tk S =>
  item_str (by unfold fitsSsize; simp; walk_at "o") (by walk_at "o") (by walk_at "o") (fun _ => S.same (q _)) hs hg
theorem W.isalpha {x : Str} {t : Tok} {Q : Po Value} (q : Q (.bool (Txt.isalpha x)) m μ ι) : c.W (PySem.call (.builtin "str.isalpha") [.str x t]) Q m μ ι := .mk fun hp tk S => SC.isalpha (S.same q)
theorem W.malpha {x : Str} {t : Tok} {pl : Sem Bool} {Q : Po (Value × List Value)} (q : Q (.builtin "str.isalpha", [.str x t]) m μ ι) : c.W (getMethod (.str x t) s_isalpha pl) Q m μ ι := .mk fun hp tk S => by
  rw [show s_isalpha = Str.ofString "isalpha" from by kernel_rfl!]
  exact GM.isalpha (S.same q)
end
theorem is_plain {ι : Led} {n : Str} {t : Tok} (h : n = s_a ∨ n = s_b ∨ n = s_c) : Spec 1 836 [.str n t] [] ι (Gives (fun r => r = .bool true) []) := by
  refine' Spec.intro (k := 0) (loc := [(s_name, .str n t)]) hd.z836 hd.z835 ?ho ?hob ?hco' ?hcd ?hbind ?hloc ?hco ?hgen ?hk ?hcell ?hb
  walk_at "M.fn"
  intro c ρ O
  rcases h with rfl | rfl | rfl
  all_goals (
    walk_at "rw"
    refine W.notInS ?_
    refine ⟨_, rfl, W.iteT (by kernel_rfl!) ?_⟩
    walk_at "rw"
    refine W.itemS (i := 0) (by decide +kernel) (by decide) fun _ => ?_
    refine W.malpha ?_
    walk_at "rw"
    refine W.isalpha ?_
    refine ⟨_, rfl, W.iteT (by kernel_rfl!) ?_⟩
    exact Ends.gives Sub.refl rfl)
section
variable {c : Cx} {sc : Scope} {m : Lc} {μ ι ρ : Led} {k : Nat}
theorem W.c_plain {n : Str} {t : Tok} {Q : Po Value} (O : c.Ok sc k) (h : n = s_a ∨ n = s_b ∨ n = s_c) (hk : 1 ≤ k) (q : ∀ ι', Sub ι ι' → Q (.bool true) m μ ι') : c.W (PySem.call (.ref 836) [.str n t]) Q m μ ι :=
  W.callS (μ := []) (is_plain h) O hk fun r μ' ι' s g => by obtain ⟨rfl, rfl⟩ := g; exact q ι' s
end
structure Exp (K J : Nat) (ι : Led) (v : Value) (x : PyData) : Prop where
  op : ∃ C fs, InstF ι v C fs ∧ IsiB C ∧ ∀ P, kitOne (KN P) (.ref C) (.ref 344) = some false
  turn : ∀ ι', Sub ι ι' → Spec K 841 [v] [] ι' (fun r μ' ι'' => HasRow J ι'' r x ∧ μ' = [])
theorem Exp.mono {K J : Nat} {ι ι' : Led} {v : Value} {x : PyData} (h : Exp K J ι v x) (s : Sub ι ι') : Exp K J ι' v x := ⟨let ⟨C, fs, I, r⟩ := h.op; ⟨C, fs, I.mono s, r⟩, fun ι₂ s₂ => h.turn ι₂ (Sub.trans s s₂)⟩
theorem Exp.more {K K' J J' : Nat} {ι : Led} {v : Value} {x : PyData} (h : Exp K J ι v x) (hk : K ≤ K') (hj : J ≤ J') : Exp K' J' ι v x := ⟨h.op, fun ι₂ s₂ => (h.turn ι₂ s₂).more hk fun _ _ _ _ z => ⟨z.1.more hj, z.2⟩⟩
theorem Exp.href {K J : Nat} {ι : Led} {v : Value} {x : PyData} (h : Exp K J ι v x) : handedIn v = true := by
  refine oEEA h.op fun C fs I _ => ?_
  refine oEEEEA I.ex fun y _ _ _ zo4 _ => ?_; obtain rfl := zo4
  rfl
section
variable {c : Cx} {sc : Scope} {m : Lc} {μ ι ρ : Led} {k : Nat}
theorem W.c_turn {K J : Nat} {v : Value} {x : PyData} {Q : Po Value} (O : c.Ok sc k) (h : Exp K J ι v x) (hk : K ≤ k) (q : ∀ r ι', Sub ι ι' → HasRow J ι' r x → Q r m μ ι') : c.W (PySem.call (.ref 841) [v]) Q m μ ι :=
  W.callS (μ := []) (h.turn ι Sub.refl) O hk fun r μ' ι' s g => by obtain ⟨z, rfl⟩ := g; exact q r ι' s z
end
theorem exp_var {ι : Led} {v : Value} {n : Str} {t : Tok} {u : Value} (hn : n = s_a ∨ n = s_b ∨ n = s_c) (I : InstF ι v 236 [(s_uses, u), (s_name, .str n t), (s_place, .none)]) : Exp 5 1 ι v (.tuple [.str s_pvar, .str n]) := by
  refine ⟨⟨_, _, I, iB (by constructor), fun P => by kernel_rfl!⟩, fun ι' s => ?_⟩
  have I' := I.mono s
  refine' Spec.intro (k := 4) (loc := [(s_expr, v)]) hd.z841 hd.z840 ?ho ?hob ?hco' ?hcd ?hbind ?hloc ?hco ?hgen ?hk ?hcell ?hb
  walk_at "M.fn"
  intro c ρ O
  walk_at "rx"
  refine W.c_plain O hn (by decide) fun ι₂ s₂ => ?_
  walk_at "rx"
  refine W.new_PVar_p O (by decide) fun r ι₃ s₃ I => ?_
  refine Ends.ret (by walk_at "M.sub") ⟨row_PVar I, rfl⟩
theorem exp_lit {ι : Led} {v : Value} {n : Str} {i : Int} {t u : Tok} (I : InstF ι v 290 [(s_value, .int i u), (s_kind, .str n t), (s_place, .none)]) : Exp 5 1 ι v (.tuple [.str s_plit, .str n, .int i]) := by
  refine ⟨⟨_, _, I, iB (by constructor), fun P => by kernel_rfl!⟩, fun ι' s => ?_⟩
  have I' := I.mono s
  refine' Spec.intro (k := 4) (loc := [(s_expr, v)]) hd.z841 hd.z840 ?ho ?hob ?hco' ?hcd ?hbind ?hloc ?hco ?hgen ?hk ?hcell ?hb
  walk_at "M.fn"
  intro c ρ O
  walk_at "rx"
  refine W.new_PLit_p O (by decide) fun r ι₃ s₃ I => ?_
  refine Ends.ret (by walk_at "M.sub") ⟨row_PLit I, rfl⟩
theorem exp_node {ι : Led} {v : Value} {J : Nat} {x : PyData} {C : Addr} {fs : Lc} (hr : HasRow J ι v x) (I : InstF ι v C fs) (hC : C = 506 ∨ C = 641 ∨ C = 668 ∨ C = 695) : Exp 1 J ι v x := by
  refine ⟨?_, fun ι' s => ?_⟩
  · rcases hC with rfl | rfl | rfl | rfl
    · exact ⟨_, _, I, iB (by constructor), fun P => by kernel_rfl!⟩
    · exact ⟨_, _, I, iB (by constructor), fun P => by kernel_rfl!⟩
    · exact ⟨_, _, I, iB (by constructor), fun P => by kernel_rfl!⟩
    · exact ⟨_, _, I, iB (by constructor), fun P => by kernel_rfl!⟩
  have I' := I.mono s
  refine' Spec.intro (k := 0) (loc := [(s_expr, v)]) hd.z841 hd.z840 ?ho ?hob ?hco' ?hcd ?hbind ?hloc ?hco ?hgen ?hk ?hcell ?hb
  walk_at "M.fn"
  intro c ρ O
  rcases hC with rfl | rfl | rfl | rfl
  all_goals (
    walk_at "rx"
    exact Ends.ret (by walk_at "M.sub") ⟨hr.mono (Sub.trans s (by walk_at "M.sub")), rfl⟩)
theorem exp_paren {ι : Led} {v q : Value} {K J : Nat} {x : PyData} (hK : 4 ≤ K) (I : InstF ι v 452 [(s_expr, q), (s_place, .none)]) (hq : Exp K J ι q x) : Exp (K + 1) (J + 1) ι v (.tuple [.str s_pparen, x]) := by
  refine ⟨⟨_, _, I, iB (by constructor), fun P => by kernel_rfl!⟩, fun ι' s => ?_⟩
  have I' := I.mono s
  have hh := hq.href
  refine' Spec.intro (k := K) (loc := [(s_expr, v)]) hd.z841 hd.z840 ?ho ?hob ?hco' ?hcd ?hbind ?hloc ?hco ?hgen ?hk ?hcell ?hb
  walk_at "M.fn"
  intro c ρ O
  walk_at "rx"
  refine W.fld_ O (by walk_at "M.fact") (by walk_at "M.at") (fF .Paren_expr) ?_ hh
  walk_at "rx"
  refine W.c_turn O (hq.mono (Sub.trans s (by walk_at "M.sub"))) (Nat.le_refl _) fun r ι₃ s₃ hr => ?_
  walk_at "rx"
  refine W.new_PParen_p O (by walk_at "o") fun v' ι₄ s₄ I => ?_
  exact Ends.ret (by walk_at "M.sub") ⟨row_PParen I (hr.mono s₄), rfl⟩
theorem F2rows {K J : Nat} {ι' : Led} : ∀ {us : List (Value × PyData)} {ys : List Value}, F2 (fun (p : Value × PyData) y ι => HasRow J ι y p.2) ι' us ys → ∃ ws : List (Value × PyData), ys = ws.map (·.1) ∧ ws.map (·.2) = us.map (·.2) ∧ (∀ p ∈ ws, HasRow J ι' p.1 p.2) ∧ ws.length = us.length
  | [], [], _ => ⟨[], rfl, rfl, (fun _ h => by cases h), rfl⟩
  | [], _ :: _, h => h.elim
  | _ :: _, [], h => h.elim
  | u :: us, y :: ys, h => by
    refine oEAAA (F2rows (K := K) h.2) fun ws e1 e2 e3 e4 => ?_
    exact ⟨(y, u.2) :: ws, by rw [e1]; rfl, by simp [e2], fun p hp => by
      rcases List.mem_cons.mp hp with rfl | hp
      · exact h.1
      · exact e3 p hp, by simp [e4]⟩
section
variable {c : Cx} {sc scope : Scope} {m : Lc} {μ ι ρ : Led} {k : Nat}
theorem W.turnAll {x : Str} {px p1 p2 p3 : Pos} {iter : Expr} {pos : Pos} {v : Value} {us : List (Value × PyData)} {K J : Nat} {Q : Po Value} (O : c.Ok sc k) (hK : K ≤ k) (hsz : us.length ≤ sizeLine)
    (hi : IterOk c sc m μ ι iter v) (hl : ListF ι v (us.map (·.1))) (he : ∀ p ∈ us, Exp K J ι p.1 p.2)
    (q : ∀ v' ι' (ws : List (Value × PyData)), Sub ι ι' → ListF ι' v' (ws.map (·.1)) → ws.map (·.2) = us.map (·.2) → (∀ p ∈ ws, HasRow J ι' p.1 p.2) → ws.length = us.length → Q v' m μ ι')
    (hclos : closureFor scope (c.env sc) = pure [] := by rfl) (hcell : (scope.names.all fun y => decide (y.2 ≠ .cell)) = true := by kernel_rfl) (hkind : scope.kind = .function := by rfl)
    (hnames : (scope.names.all fun y => decide (y.2 = .local → scope.names.lookup y.1 = some .local)) = true := by kernel_rfl) (hx : scope.names.lookup x = some .local := by kernel_rfl)
    (hs : ∀ v, foldedSetIterable iter (c.env sc) v = pure v := by intro _; rfl)
    (hk : (relabel scope (c.env sc)).kind = .function := by rfl) (hx' : (relabel scope (c.env sc)).names.lookup x = some .local := by rfl) (hf : (relabel scope (c.env sc)).names.lookup s_pattern_of = some .globalImplicit := by rfl) (hd : (x == ("__debug__" : Str)) = false := by kernel_rfl)
    (hee : ∀ C', eval (.Call (.Name s_pattern_of p1) [.Name x p2] [] p3) (compEnvC scope [] C' (c.env sc)) = (do callWith p3 (← eval (.Name s_pattern_of p1) (compEnvC scope [] C' (c.env sc))) [] (backTo p3 (starEach [.Name x p2] (compEnvC scope [] C' (c.env sc)))) (backToKw p3 (keywordEach [] (compEnvC scope [] C' (c.env sc))))) := by intro _; rfl) :
    c.W (eval (.ListComp (.Call (.Name s_pattern_of p1) [.Name x p2] [] p3) [⟨.Name x px, iter, [], 0⟩] scope pos) (c.env sc)) Q m μ ι :=
  W.comp (fun (p : Value × PyData) y ι => HasRow J ι y p.2) (us := us) (val := (·.1)) O (fun u y ι ι' s z => z.mono s) hsz hi hl (fun mf p hp => EltOk.fun_ O hK (gF .pattern_of) (kF .pattern_of) (fun ι' s => (he p hp).turn ι' s) hk hx' hf hd (by kernel_rfl) hee)
    (fun ys v' ι' s hl' f => by
      refine oEAAA (F2rows (K := 0) f) fun ws zo1 e2 e3 e4 => ?_; obtain rfl := zo1
      exact q v' ι' ws s hl' e2 e3 e4) hclos hcell hkind hnames hx hs
end
theorem exp_tuple {ι : Led} {v q : Value} {K J : Nat} {us : List (Value × PyData)} (hK : 4 ≤ K) (I : InstF ι v 398 [(s_items, q), (s_place, .none)]) (hl : ListF ι q (us.map (·.1))) (he : ∀ p ∈ us, Exp K J ι p.1 p.2) (hsz : us.length ≤ sizeLine) :
    Exp (K + 1) (J + 2) ι v (.tuple [.str s_ptuple, .tuple (us.map (·.2))]) := by
  refine ⟨⟨_, _, I, iB (by constructor), fun P => by kernel_rfl!⟩, fun ι' s => ?_⟩
  have I' := I.mono s
  have hh := hl.href
  refine' Spec.intro (k := K) (loc := [(s_expr, v)]) hd.z841 hd.z840 ?ho ?hob ?hco' ?hcd ?hbind ?hloc ?hco ?hgen ?hk ?hcell ?hb
  walk_at "M.fn"
  intro c ρ O
  walk_at "rx"
  rename_i s₁ _
  refine W.turnAll O (Nat.le_refl _) hsz (IterOk.fld O (by walk_at "M.at") (by walk_at "M.fact") (by walk_at "M.at") (fF .Tuple_items) hh) (hl.mono (Sub.trans s (by walk_at "M.sub"))) (fun p hp => (he p hp).mono (Sub.trans s (by walk_at "M.sub"))) fun v' ι₃ ws s₃ hl3 e2 e3 e4 => ?_
  walk_at "rx"
  refine W.new_PTuple_p O (by walk_at "o") fun v' ι₄ s₄ I => ?_
  refine Ends.ret (by walk_at "M.sub") ⟨?_, rfl⟩
  rw [← e2]
  exact row_PTuple I (hl3.mono s₄) (fun p hp => (e3 p hp).mono s₄) (by walk_at "o")
theorem exp_list {ι : Led} {v q : Value} {K J : Nat} {us : List (Value × PyData)} (hK : 4 ≤ K) (I : InstF ι v 425 [(s_items, q), (s_place, .none)]) (hl : ListF ι q (us.map (·.1))) (he : ∀ p ∈ us, Exp K J ι p.1 p.2) (hsz : us.length ≤ sizeLine) :
    Exp (K + 1) (J + 2) ι v (.tuple [.str s_plist, .tuple (us.map (·.2))]) := by
  refine ⟨⟨_, _, I, iB (by constructor), fun P => by kernel_rfl!⟩, fun ι' s => ?_⟩
  have I' := I.mono s
  have hh := hl.href
  refine' Spec.intro (k := K) (loc := [(s_expr, v)]) hd.z841 hd.z840 ?ho ?hob ?hco' ?hcd ?hbind ?hloc ?hco ?hgen ?hk ?hcell ?hb
  walk_at "M.fn"
  intro c ρ O
  walk_at "rx"
  rename_i s₁ _
  refine W.turnAll O (Nat.le_refl _) hsz (IterOk.fld O (by walk_at "M.at") (by walk_at "M.fact") (by walk_at "M.at") (fF .ListOf_items) hh) (hl.mono (Sub.trans s (by walk_at "M.sub"))) (fun p hp => (he p hp).mono (Sub.trans s (by walk_at "M.sub"))) fun v' ι₃ ws s₃ hl3 e2 e3 e4 => ?_
  walk_at "rx"
  refine W.new_PList_p O (by walk_at "o") fun v' ι₄ s₄ I => ?_
  refine Ends.ret (by walk_at "M.sub") ⟨?_, rfl⟩
  rw [← e2]
  exact row_PList I (hl3.mono s₄) (fun p hp => (e3 p hp).mono s₄) (by walk_at "o")
inductive AppN (K J : Nat) (ι : Led) : Value → Str → List (Value × PyData) → Prop
  | con {v u n t} : InstF ι v 263 [(s_uses, u), (s_name, .str n t), (s_place, .none)] → AppN K J ι v n []
  | app {v f a x n as} : InstF ι v 317 [(s_arg, a), (s_fun, f), (s_place, .none)] → AppN K J ι f n as → Exp K J ι a x → AppN K J ι v n (as ++ [(a, x)])
theorem AppN.mono {K J : Nat} {ι ι' : Led} (s : Sub ι ι') {v : Value} {n : Str} {as : List (Value × PyData)} (h : AppN K J ι v n as) : AppN K J ι' v n as := by
  induction h with
  | con I => exact .con (I.mono s)
  | app I _ e ih => exact .app (I.mono s) ih (e.mono s)
theorem AppN.exps {K J : Nat} {ι : Led} {v : Value} {n : Str} {as : List (Value × PyData)} (h : AppN K J ι v n as) : ∀ p ∈ as, Exp K J ι p.1 p.2 := by
  induction h with
  | con I => intro p hp; cases hp
  | app I _ e ih =>
    intro p hp
    rcases List.mem_append.mp hp with hp | hp
    · exact ih p hp
    · rw [List.mem_singleton.mp hp]; exact e
theorem AppN.href {K J : Nat} {ι : Led} {v : Value} {n : Str} {as : List (Value × PyData)} (h : AppN K J ι v n as) : handedIn v = true := by
  cases h with
  | con I => refine oEEEEA I.ex fun y _ _ _ zo4 _ => ?_; obtain rfl := zo4; rfl
  | app I _ _ => refine oEEEEA I.ex fun y _ _ _ zo4 _ => ?_; obtain rfl := zo4; rfl
theorem applied {K J : Nat} {ι : Led} {v : Value} {n : Str} {as : List (Value × PyData)} (hK : 4 ≤ K) (h : AppN K J ι v n as) (hsz : as.length < 1000) : Spec (K + 1) 846 [v] [] ι (fun r μ' ι' => HasRow (J + 2) ι' r (.tuple [.str s_pcon, .str n, .tuple (as.map (·.2))]) ∧ μ' = []) := by
  refine' Spec.intro (k := K) (loc := [(s_expr, v)]) hd.z846 hd.z845 ?ho ?hob ?hco' ?hcd ?hbind ?hloc ?hco ?hgen ?hk ?hcell ?hb
  walk_at "M.fn"
  intro c ρ O
  have hS : sizeLine = 16777216 := sizeLine_eq
  refine W.asgSwap (names := [s_args, s_head]) O ?_
  walk_at "rx"
  refine W.listP (μ₁ := []) (by walk_at "M.sz") fun l o ho => ?_
  walk_at "rx"
  rename_i tv ι₁ s₁ ht
  refine ⟨_, ht, rfl, ?_⟩
  show c.W _ _ ((s_args, .ref l) :: (s_head, v) :: [(s_expr, v)]) ((l, o) :: ρ) ι₁
  refine W.while_ (fun n' m' μ' ι₄ => ∃ (u : Value) (todo done : List (Value × PyData)) (o : Obj) (m₀ : Lc), as = todo ++ done ∧ todo.length = n' ∧ AppN K J ι₄ u n todo ∧ At s_head u m' ∧ At s_args (.ref l) m' ∧ At s_expr v m' ∧ μ' = (l, o) :: ρ ∧ PObj o ((done.map (·.1)).reverse) ∧ Sub ι₁ ι₄) (n₀ := as.length)
    ⟨v, as, [], o, [], by simp, rfl, h.mono s₁, .there (by kernel_rfl!) .here, .here, .there (by kernel_rfl!) (.there (by kernel_rfl!) .here), rfl, ho, Sub.refl⟩ fun n' m' μ' ι₄ j => ?_
  refine oEEEEEAAAA j ?_; clear j; intro u todo done o m₀ e1 e2 ha a1 zz; refine oAAAA zz ?_; clear zz; intro a2 a3 zo11 hp s₄; obtain rfl := zo11
  cases ha with
  | con I =>
    rename_i uu tt
    simp only [List.nil_append] at e1
    subst e1
    have s14 := Sub.trans s₁ s₄
    walk_at "rx"
    refine W.reverse (μ₁ := []) hp (by simp; walk_at "o") fun o2 hp2 => ?_
    rw [List.reverse_reverse] at hp2
    have hpl : ∃ C fs, InstF ι v C fs ∧ At s_place .none fs ∧ FieldF C s_place := by
      cases h with
      | con I => exact ⟨_, _, I, .there (by kernel_rfl!) (.there (by kernel_rfl!) .here), (fF .Con_place)⟩
      | app I _ _ => exact ⟨_, _, I, .there (by kernel_rfl!) (.there (by kernel_rfl!) .here), (fF .App_place)⟩
    refine oEEAA hpl ?_; clear hpl; intro C fs Iv ap ff
    have he := h.exps
    refine W.freezeL (μ := []) hp2 fun ι₅ s₅ hl => ?_
    have s15 := Sub.trans s14 s₅
    have I5 := I.mono s₅
    walk_at "rx"
    refine W.turnAll O (Nat.le_refl _) (by walk_at "o") (IterOk.name (by walk_at "M.at")) hl (fun p hp => (he p hp).mono s15) fun v' ι₆ ws s₆ hl6 e4 e5 e6 => ?_
    have Iv6 := Iv.mono (Sub.trans s15 s₆)
    walk_at "rx"
    refine W.fld_ O Iv6 ap ff ?_
    walk_at "rx"
    refine W.new_PCon_p O (by walk_at "o") fun v' ι₇ s₇ I => ?_
    refine Ends.ret (μ := []) (ρ := ρ) (Sub.trans s15 (Sub.trans s₆ s₇)) ⟨?_, rfl⟩
    rw [← e4]
    exact row_PCon I (hl6.mono s₇) (fun p hp => (e5 p hp).mono s₇) (by walk_at "o")
  | app I ha he =>
    rename_i f a x as'
    have h1 := ha.href
    have h2 := he.href
    have hlen : as'.length < as.length := by rw [e1]; simp <;> walk_at "o"
    walk_at "rx"
    refine W.fld_ O I (by walk_at "M.at") (fF .App_arg) ?_ h2
    walk_at "rx"
    refine W.append (μ₁ := []) hp (by simp [e1] at hsz ⊢; walk_at "o") fun o2 hp2 => ?_
    walk_at "rx"
    refine W.fld_ O I (by walk_at "M.at") (fF .App_fun) ?_ h1
    walk_at "rx"
    exact ⟨rfl, as'.length, by have := e2; simp at this; walk_at "o", f, as', (a, x) :: done, o2, [], by simp [e1], rfl, ha, .here, .there (by kernel_rfl!) a2, .there (by kernel_rfl!) a3, rfl, by simpa using hp2, s₄⟩
theorem exp_app {K J : Nat} {ι : Led} {v : Value} {n : Str} {as : List (Value × PyData)} (hK : 4 ≤ K) (h : AppN K J ι v n as) (hsz : as.length < 1000) : Exp (K + 2) (J + 2) ι v (.tuple [.str s_pcon, .str n, .tuple (as.map (·.2))]) := by
  have hI : ∃ C fs, InstF ι v C fs ∧ (C = 263 ∨ C = 317) := by
    cases h with
    | con I => exact ⟨_, _, I, .inl rfl⟩
    | app I _ _ => exact ⟨_, _, I, .inr rfl⟩
  refine oEEA hI ?_; clear hI; intro C fs I hC
  refine ⟨?_, fun ι' s => ?_⟩
  · rcases hC with rfl | rfl
    · exact ⟨_, _, I, iB (by constructor), fun P => by kernel_rfl!⟩
    · exact ⟨_, _, I, iB (by constructor), fun P => by kernel_rfl!⟩
  have I' := I.mono s
  refine' Spec.intro (k := K + 1) (loc := [(s_expr, v)]) hd.z841 hd.z840 ?ho ?hob ?hco' ?hcd ?hbind ?hloc ?hco ?hgen ?hk ?hcell ?hb
  walk_at "M.fn"
  intro c ρ O
  rcases hC with rfl | rfl
  all_goals (
    walk_at "rx"
    refine W.callS (μ := []) (applied hK (h.mono (Sub.trans s (by walk_at "M.sub"))) hsz) O (Nat.le_refl _) fun r μ' ι₅ s₅ g => ?_
    obtain ⟨g1, rfl⟩ := g
    exact Ends.ret (μ := []) (ρ := ρ) (Sub.trans (by walk_at "M.sub") s₅) ⟨g1, rfl⟩)
def OpI (ι : Led) (is : List Value) (x : PyData) : Prop := ∃ v n t p, is = [v] ∧ InstF ι v 344 [(s_is_con, .bool true), (s_name, .str n t), (s_place, p)] ∧ x = .tuple [.str s_op, .str n, .bool true]
def PartI (K J : Nat) (ι : Led) (is : List Value) (x : PyData) : Prop := (∃ v, is = [v] ∧ Exp K J ι v x) ∨
  ∃ o l b n t i u t2, is = [o, l] ∧ InstF ι o 344 [(s_is_con, .bool b), (s_name, .str n t), (s_place, .none)] ∧ InstF ι l 290 [(s_value, .int i u), (s_kind, .str s_int t2), (s_place, .none)] ∧ x = .tuple [.str s_plit, .str s_int, .int (0 - i)]
theorem OpI.mono {ι ι' : Led} {is : List Value} {x : PyData} (h : OpI ι is x) (s : Sub ι ι') : OpI ι' is x := by refine oEEEEAA h ?_; clear h; intro v n t p e I r; exact ⟨v, n, t, p, e, I.mono s, r⟩
theorem PartI.mono {K J : Nat} {ι ι' : Led} {is : List Value} {x : PyData} (h : PartI K J ι is x) (s : Sub ι ι') : PartI K J ι' is x := by
  rcases h with ⟨v, e, h⟩ | ⟨o, l, b, n, t, i, u, t2, e, I1, I2, r⟩
  · exact .inl ⟨v, e, h.mono s⟩
  · exact .inr ⟨o, l, b, n, t, i, u, t2, e, I1.mono s, I2.mono s, r⟩
theorem PartI.more {K K' J J' : Nat} {ι : Led} {is : List Value} {x : PyData} (h : PartI K J ι is x) (hk : K ≤ K') (hj : J ≤ J') : PartI K' J' ι is x := by
  rcases h with ⟨v, e, h⟩ | ⟨o, l, b, n, t, i, u, t2, e, I1, I2, r⟩
  · exact .inl ⟨v, e, h.more hk hj⟩
  · exact .inr ⟨o, l, b, n, t, i, u, t2, e, I1, I2, r⟩
noncomputable abbrev Un := List Value × PyData
noncomputable def UnOk (K J : Nat) (ι : Led) : Bool → List Un → Prop
  | _, [] => True
  | false, u :: us => PartI K J ι u.1 u.2 ∧ UnOk K J ι true us
  | true, u :: us => OpI ι u.1 u.2 ∧ UnOk K J ι false us
theorem UnOk.mono {K J : Nat} {ι ι' : Led} (s : Sub ι ι') : ∀ {b : Bool} {us : List Un}, UnOk K J ι b us → UnOk K J ι' b us
  | _, [], _ => trivial
  | false, _ :: _, h => ⟨h.1.mono s, UnOk.mono s h.2⟩
  | true, _ :: _, h => ⟨h.1.mono s, UnOk.mono s h.2⟩
theorem con_operator {ι : Led} {v n p : Value} (I : InstF ι v 344 [(s_is_con, .bool true), (s_name, n), (s_place, p)]) : Spec 1 860 [v] [] ι (Gives (fun r => r = v) []) := by
  refine' Spec.intro (k := 0) (loc := [(s_op, v)]) hd.z860 hd.z859 ?ho ?hob ?hco' ?hcd ?hbind ?hloc ?hco ?hgen ?hk ?hcell ?hb
  walk_at "M.fn"
  intro c ρ O
  walk_at "rx"
  exact Ends.gives Sub.refl rfl
noncomputable def rowOf (x : PyData) (us : List Un) : PyData := match us with
  | [_] => x
  | _ => .tuple [.str s_pinfix, .tuple (us.map (·.2))]
theorem infix_ {K J : Nat} {ι : Led} {l p : Value} {us : List Un} {x : PyData} (hK : 5 ≤ K) (hJ : 1 ≤ J) (hl : ListF ι l (us.flatMap (·.1))) (hu : UnOk K J ι false us) (hsz : (us.flatMap (·.1)).length < 100000) (hn : us.length < 10000) (hx : us.head? = some (x0, x)) (hp : handedIn p = true) :
    Spec (K + 1) 853 [l, p] [] ι (fun r μ' ι' => HasRow (J + 2) ι' r (rowOf x us) ∧ μ' = []) := by
  refine' Spec.intro (k := K) (loc := [(s_place, p), (s_items, l)]) hd.z853 hd.z852 ?ho ?hob ?hco' ?hcd ?hbind ?hloc ?hco ?hgen ?hk ?hcell ?hb
  walk_at "M.fn"
  intro c ρ O
  have hS : sizeLine = 16777216 := sizeLine_eq
  refine W.asgSwap (names := [s_found, s_at]) O ?_
  walk_at "rx"
  refine W.listP (μ₁ := []) (by walk_at "M.sz") fun f o ho => ?_
  walk_at "rx"
  rename_i tk tv ι₁ s₁ ht
  refine ⟨_, ht, rfl, ?_⟩
  show c.W _ _ ((s_found, .ref f) :: (s_at, .int 0 tk) :: [(s_place, p), (s_items, l)]) ((f, o) :: ρ) ι₁
  refine W.while_ (fun n' m' μ' ι₄ => ∃ (done todo : List Un) (ws : List (Value × PyData)) (i : Nat) (u : Tok) (o : Obj) (b : Bool), us = done ++ todo ∧ todo.length = n' ∧ UnOk K J ι₄ b todo ∧ b = (done.length % 2 == 1) ∧ i = (done.flatMap (·.1)).length ∧ At s_at (.int (i : Int) u) m' ∧ At s_found (.ref f) m' ∧ At s_items l m' ∧ At s_place p m' ∧ μ' = (f, o) :: ρ ∧ PObj o (ws.map (·.1)) ∧ ws.map (·.2) = done.map (·.2) ∧ (∀ p ∈ ws, HasRow J ι₄ p.1 p.2) ∧ Sub ι₁ ι₄) (n₀ := us.length)
    ⟨[], us, [], 0, tk, o, false, rfl, rfl, hu.mono s₁, rfl, rfl, .there (by kernel_rfl!) .here, .here, .there (by kernel_rfl!) (.there (by kernel_rfl!) (.there (by kernel_rfl!) .here)), .there (by kernel_rfl!) (.there (by kernel_rfl!) .here), rfl, ho, rfl, (fun _ h => by cases h), Sub.refl⟩ fun n' m' μ' ι₄ j => ?_
  refine oEEEEEEEAA j ?_; clear j; intro done todo ws i u o b e1 e2 zz; refine oAAAAAAAAA zz ?_; clear zz; intro hu4 hb zo11 a1 a2 a3 a4 zo16 hpo zz; refine oAA zz ?_; clear zz; intro e5 hr s₄; obtain rfl := zo11; obtain rfl := zo16
  have s14 := Sub.trans s₁ s₄
  have hl4 := hl.mono s14
  have hwl : ws.length = done.length := by simpa using congrArg List.length e5
  have hdl : done.length ≤ us.length := by rw [e1]; simp
  have htot : (us.flatMap (·.1)).length = (done.flatMap (·.1)).length + (todo.flatMap (·.1)).length := by rw [e1]; simp
  walk_at "rx"
  refine W.len_ hl4 (by walk_at "o") fun _ => ?_
  walk_at "rx"
  show ite _ _ _
  cases todo with
  | nil =>
    refine W.iteF (by simp only [List.flatMap_nil, List.length_nil, Nat.add_zero] at htot; rw [decide_eq_false_iff_not]; walk_at "o") ?_
    rw [List.append_nil] at e1
    subst e1
    refine W.freezeL (μ := []) hpo fun ι₅ s₅ hl5 => ?_
    have s15 := Sub.trans s14 s₅
    walk_at "rx"
    refine W.len_ hl5 (by rw [List.length_map]; walk_at "o") fun _ => ?_
    walk_at "rx"
    show ite _ _ _
    rcases us with _ | ⟨y, us⟩
    · simp at hx
    rcases us with _ | ⟨y2, us'⟩
    · obtain ⟨w, rfl⟩ := List.length_eq_one_iff.mp (show ws.length = 1 by simpa using hwl)
      refine W.iteT (by rfl) ?_
      walk_at "rx"
      refine W.item_ hl5 (by decide) (by decide) (x := w.1) (by rfl) ?_
      refine Ends.ret (μ := []) (ρ := ρ) s15 ⟨?_, rfl⟩
      have z := (hr w (.head _)).mono s₅
      have e6 : w.2 = y.2 := by simpa using e5
      have e7 : y.2 = x := by have := Option.some.inj hx; rw [this]
      rw [e6, e7] at z
      exact z.more (by walk_at "o")
    · refine W.iteF (by rw [List.length_map, hwl]; simp only [List.length_cons]; rw [beq_eq_false_iff_ne]; walk_at "o") ?_
      walk_at "rx"
      refine W.new_PInfix_p O (by walk_at "o") fun v' ι₇ s₇ I => ?_
      refine Ends.ret (μ := []) (ρ := ρ) (Sub.trans s15 s₇) ⟨?_, rfl⟩
      have z := row_PInfix (us := ws) (K := J) I (hl5.mono s₇) (fun p hp => (hr p hp).mono (Sub.trans s₅ s₇)) (by walk_at "o")
      rw [e5] at z
      exact z
  | cons a todo =>
    have hmod : ∀ z : Nat, (z : Int).fmod 2 = ((z % 2 : Nat) : Int) := fun z => by rw [Int.fmod_eq_emod_of_nonneg _ (by decide)]; walk_at "o"
    have hit : ∀ j (v : Value), a.1[j]? = some v → (us.flatMap (·.1))[(done.flatMap (·.1)).length + j]? = some v := by
      intro j v hj
      have hjl : j < a.1.length := by
        cases e : decide (j < a.1.length) with
        | true => exact of_decide_eq_true e
        | false => rw [List.getElem?_eq_none (by have := of_decide_eq_false e; walk_at "o")] at hj; cases hj
      rw [e1, List.flatMap_append, List.flatMap_cons, List.getElem?_append_right (by walk_at "o"), Nat.add_sub_cancel_left, List.getElem?_append_left hjl, hj]
    simp only [List.flatMap_cons, List.length_append] at htot
    have hcut : us = (done ++ [a]) ++ todo := by rw [e1]; simp
    have hfl : ((done ++ [a]).flatMap (·.1)).length = (done.flatMap (·.1)).length + a.1.length := by simp
    have hdone : (done ++ [a]).length = done.length + 1 := by simp
    cases b with
    | false =>
      have hpar : done.length % 2 = 0 := by
        have : (done.length % 2 == 1) = false := hb.symm
        have := beq_eq_false_iff_ne.mp this
        walk_at "o"
      obtain ⟨hpa, hrest⟩ := hu4
      rcases hpa with ⟨v, ea, hv⟩ | ⟨oo, ll, b', nn, t, ii, u2, t2, ea, I1, I2, er⟩
      · have h0 := hit 0 v (by rw [ea]; rfl)
        refine W.iteT (by rw [decide_eq_true_iff]; rw [ea] at htot; simp only [List.length_cons, List.length_nil] at htot; walk_at "o") ?_
        refine oEEAA hv.op fun C fs Iv hB hO => ?_
        walk_at "rx"
        refine W.item_ hl4 (by walk_at "o") (by walk_at "o") (x := v) (by simpa using h0) ?_
        walk_at "rx"
        refine W.isOne (b := false) O Iv hB hO ?_
        walk_at "rx"
        refine W.isOne (b := false) O Iv hB hO ?_
        walk_at "rx"
        refine W.c_turn O hv (by walk_at "o") fun r ι₅ s₅ hr5 => ?_
        walk_at "rx"
        refine W.append (μ₁ := []) hpo (by rw [List.length_map]; walk_at "o") fun o2 hp2 => ?_
        walk_at "rx"
        rename_i tk2
        refine ⟨rfl, todo.length, by rw [← e2]; exact Nat.lt_succ_self _, done ++ [a], todo, ws ++ [(r, a.2)], _, tk2, o2, true, hcut, rfl, hrest.mono s₅, by rw [hdone]; simp; walk_at "o", rfl, ?_, .there (by kernel_rfl!) (.there (by kernel_rfl!) a2), .there (by kernel_rfl!) (.there (by kernel_rfl!) a3), .there (by kernel_rfl!) (.there (by kernel_rfl!) a4), rfl, by simpa using hp2, by simp [e5], ?_, Sub.trans s₄ s₅⟩
        · rw [hfl, ea]; exact .here
        · intro p hp
          rcases List.mem_append.mp hp with hp | hp
          · exact (hr p hp).mono s₅
          · rw [List.mem_singleton.mp hp]; exact hr5
      · have h0 := hit 0 oo (by rw [ea]; rfl)
        have h1 := hit 1 ll (by rw [ea]; rfl)
        rw [ea] at htot
        simp only [List.length_cons, List.length_nil] at htot
        refine W.iteT (by rw [decide_eq_true_iff]; walk_at "o") ?_
        walk_at "rx"
        refine W.item_ hl4 (by walk_at "o") (by walk_at "o") (x := oo) (by simpa using h0) ?_
        walk_at "rx"
        refine W.lenM (.head _) hpo.lobj (by rw [List.length_map]; walk_at "o") fun _ => ?_
        walk_at "rx"
        refine W.modI (by decide) fun _ => ?_
        walk_at "rx"
        refine W.iteT (by rw [List.length_map, hwl, hmod, hpar]; rfl) ?_
        walk_at "rx"
        refine W.len_ hl4 (by walk_at "o") fun _ => ?_
        walk_at "rx"
        refine W.iteT (by rw [decide_eq_true_iff]; walk_at "o") ?_
        walk_at "rx"
        refine W.item_ hl4 (by walk_at "o") (by walk_at "o") (x := ll) (by rw [show (((done.flatMap (·.1)).length : Int) + 1).toNat = (done.flatMap (·.1)).length + 1 by walk_at "o"]; exact h1) ?_
        walk_at "rx"
        refine W.new_PLit_p O (by walk_at "o") fun v' ι₅ s₅ I => ?_
        walk_at "rx"
        refine W.append (μ₁ := []) hpo (by rw [List.length_map]; walk_at "o") fun o2 hp2 => ?_
        walk_at "rx"
        rename_i tk2
        refine ⟨rfl, todo.length, by rw [← e2]; exact Nat.lt_succ_self _, done ++ [a], todo, ws ++ [(v', a.2)], _, tk2, o2, true, hcut, rfl, hrest.mono s₅, by rw [hdone]; simp; walk_at "o", rfl, ?_, .there (by kernel_rfl!) (.there (by kernel_rfl!) (.there (by kernel_rfl!) a2)), .there (by kernel_rfl!) (.there (by kernel_rfl!) (.there (by kernel_rfl!) a3)), .there (by kernel_rfl!) (.there (by kernel_rfl!) (.there (by kernel_rfl!) a4)), rfl, by simpa using hp2, by simp [e5], ?_, Sub.trans s₄ s₅⟩
        · rw [hfl, ea]; exact .here
        · intro p hp
          rcases List.mem_append.mp hp with hp | hp
          · exact (hr p hp).mono s₅
          · rw [List.mem_singleton.mp hp, er]; exact (row_PLit I).more hJ
    | true =>
      have hpar : done.length % 2 = 1 := by
        have : (done.length % 2 == 1) = true := hb.symm
        exact beq_iff_eq.mp this
      obtain ⟨⟨v, n, t, pp, ea, Iv, er⟩, hrest⟩ := hu4
      have h0 := hit 0 v (by rw [ea]; rfl)
      rw [ea] at htot
      simp only [List.length_cons, List.length_nil] at htot
      refine W.iteT (by rw [decide_eq_true_iff]; walk_at "o") ?_
      walk_at "rx"
      refine W.item_ hl4 (by walk_at "o") (by walk_at "o") (x := v) (by simpa using h0) ?_
      walk_at "rx"
      refine W.lenM (.head _) hpo.lobj (by rw [List.length_map]; walk_at "o") fun _ => ?_
      walk_at "rx"
      refine W.modI (by decide) fun _ => ?_
      walk_at "rx"
      refine W.iteF (by rw [List.length_map, hwl, hmod, hpar]; rfl) ?_
      walk_at "rx"
      refine W.callS (μ := []) (con_operator Iv) O (by walk_at "o") fun r μ' ι₅ s₅ g => ?_
      obtain ⟨rfl, rfl⟩ := g
      walk_at "rx"
      refine W.append (μ₁ := []) hpo (by rw [List.length_map]; walk_at "o") fun o2 hp2 => ?_
      walk_at "rx"
      rename_i tk2
      refine ⟨rfl, todo.length, by rw [← e2]; exact Nat.lt_succ_self _, done ++ [a], todo, ws ++ [(r, a.2)], _, tk2, o2, false, hcut, rfl, hrest.mono s₅, by rw [hdone]; simp; walk_at "o", rfl, ?_, .there (by kernel_rfl!) (.there (by kernel_rfl!) a2), .there (by kernel_rfl!) (.there (by kernel_rfl!) a3), .there (by kernel_rfl!) (.there (by kernel_rfl!) a4), rfl, by simpa using hp2, by simp [e5], ?_, Sub.trans s₄ s₅⟩
      · rw [hfl, ea]; exact .here
      · intro p hp
        rcases List.mem_append.mp hp with hp | hp
        · exact (hr p hp).mono s₅
        · rw [List.mem_singleton.mp hp, er]; exact ((row_Op Iv).mono s₅).more hJ
theorem exp_infix {K J : Nat} {ι : Led} {v l : Value} {us : List Un} {x : PyData} {x0 : List Value} (hK : 5 ≤ K) (hJ : 1 ≤ J) (I : InstF ι v 371 [(s_items, l), (s_place, .none)]) (hl : ListF ι l (us.flatMap (·.1))) (hu : UnOk K J ι false us) (hsz : (us.flatMap (·.1)).length < 100000) (hn : us.length < 10000) (hx : us.head? = some (x0, x)) :
    Exp (K + 2) (J + 2) ι v (rowOf x us) := by
  refine ⟨⟨_, _, I, iB (by constructor), fun P => by kernel_rfl!⟩, fun ι' s => ?_⟩
  have I' := I.mono s
  have hh := hl.href
  refine' Spec.intro (k := K + 1) (loc := [(s_expr, v)]) hd.z841 hd.z840 ?ho ?hob ?hco' ?hcd ?hbind ?hloc ?hco ?hgen ?hk ?hcell ?hb
  walk_at "M.fn"
  intro c ρ O
  walk_at "rx"
  refine W.fld_ O (by walk_at "M.fact") (by walk_at "M.at") (fF .Infix_items) ?_ hh
  walk_at "rx"
  refine W.callS (μ := []) (infix_ hK hJ (hl.mono (Sub.trans s (by walk_at "M.sub"))) (hu.mono (Sub.trans s (by walk_at "M.sub"))) hsz hn hx rfl) O (Nat.le_refl _) fun r μ' ι₅ s₅ g => ?_
  obtain ⟨g1, rfl⟩ := g
  exact Ends.ret (μ := []) (ρ := ρ) (Sub.trans (by walk_at "M.sub") s₅) ⟨g1, rfl⟩
local macro_rules | `(tactic| walk_at "M.new") => `(tactic| with_reducible first | refine' W.new_Word_5 ?c ?l ?q | refine' W.new_Word_4 ?c ?l ?q | refine' W.new_Var_n ?c ?l ?q | refine' W.new_Con_n ?c ?l ?q | refine' W.new_Lit_n ?c ?l ?q | refine' W.new_App_n ?c ?l ?q | refine' W.new_Op_n ?c ?l ?q | refine' W.new_Infix_n ?c ?l ?q | refine' W.new_Tuple_n ?c ?l ?q | refine' W.new_ListOf_n ?c ?l ?q | refine' W.new_Paren_n ?c ?l ?q | refine' W.new_PVar_n ?c ?l ?q | refine' W.new_PWild_n ?c ?l ?q | refine' W.new_PAs_n ?c ?l ?q | refine' W.new_PLazy_n ?c ?l ?q | refine' W.new_PBang_n ?c ?l ?q)
local macro_rules | `(tactic| walk_at "M.y") => `(tactic| first
  | walk_at "M.w"
  | ((with_reducible show Cx.W _ (newTuple _) _ _ _ _); (with_reducible refine W.tup_ (by walk_at "M.sz") ?_); intros)
  | ((with_reducible show Cx.W _ (newList _) _ _ _ _); (with_reducible refine W.list_ (by walk_at "M.sz") ?_); intros)
  | ((with_reducible show Cx.W _ (PySem.call (Value.ref _) _) _ _ _ _); walk_at "M.new"; (case c => assumption); (case l => walk_at "o"); intros))
def Brk (l : Addr) (μ : Led) : Prop := ∃ o a b t u, μ = [(l, o)] ∧ LObj o [.int a t, .int b u] ∧ 0 ≤ a ∧ 0 ≤ b ∧ b < 1999289
theorem cup {l : Addr} {μ ι : Led} {many : Nat} {t : Tok} (h : Brk l μ) (h1 : 1 ≤ many) (h2 : many ≤ 12) : Spec 1 959 [.ref l, .int (many : Int) t] μ ι (fun r μ' _ => (∃ (g : Nat) (u : Tok), r = .int (g : Int) u ∧ g < many) ∧ Brk l μ') := by
  refine oEEEEEAAAA h ?_; clear h; intro o a b ta tb zo5 ho ha hb hb2; obtain rfl := zo5
  refine' Spec.intro (k := 0) (loc := [(s_many, .int (many : Int) t), (s_brook, .ref l)]) hd.z959 hd.z958 ?ho ?hob ?hco' ?hcd ?hbind ?hloc ?hco ?hgen ?hk ?hcell ?hb
  walk_at "M.fn"
  intro c ρ O
  walk_at "ry"
  refine W.itemM (.head _) ho (by decide) (by decide) (x := .int b tb) rfl ?_
  walk_at "ry"
  refine W.mulI (.of_right (by decide)) fun _ => ?_
  walk_at "ry"
  refine W.modI (by decide) fun _ => ?_
  walk_at "ry"
  refine W.setitem (i := 1) (μ₁ := []) ho (by simp) (by simp) fun o1 ho1 => ?_
  walk_at "ry"
  refine W.itemM (.head _) ho1 (by decide) (by decide) (x := .int a ta) rfl ?_
  walk_at "ry"
  refine W.itemM (.head _) ho1 (by decide) (by decide) (x := .int ((b * 6367 + 239).fmod 1999289) _) rfl ?_
  walk_at "ry"
  refine W.fdivI (by decide) (by decide) fun _ => ?_
  walk_at "ry"
  refine W.modI (by walk_at "o") fun _ => ?_
  walk_at "ry"
  refine W.itemM (.head _) ho1 (by decide) (by decide) (x := .int a ta) rfl ?_
  walk_at "ry"
  refine W.fdivI (by walk_at "o") (by walk_at "o") fun _ => ?_
  walk_at "ry"
  refine W.setitem (i := 0) (μ₁ := []) ho1 (by simp) (by simp) fun o2 ho2 => ?_
  walk_at "ry"
  have hm : (0 : Int) < many := by walk_at "o"
  have e1 : ∀ z : Int, 0 ≤ z.fmod many ∧ z.fmod many < many := fun z => by
    rw [Int.fmod_eq_emod_of_nonneg _ (by walk_at "o")]
    exact ⟨Int.emod_nonneg _ (by walk_at "o"), Int.emod_lt_of_pos _ hm⟩
  obtain ⟨p1, p2⟩ := e1 (a + ((b * 6367 + 239).fmod 1999289).fdiv 61)
  refine Ends.ret (μ := [(l, o2)]) (ρ := ρ) Sub.refl ⟨⟨((a + ((b * 6367 + 239).fmod 1999289).fdiv 61).fmod many).toNat, _, by rw [Int.toNat_of_nonneg p1], by walk_at "o"⟩, o2, _, _, _, _, rfl, ho2, ?_, ?_, ?_⟩
  · rw [Int.fdiv_eq_ediv_of_nonneg _ (by walk_at "o")]; exact Int.ediv_nonneg ha (by walk_at "o")
  · rw [Int.fmod_eq_emod_of_nonneg _ (by decide)]; exact Int.emod_nonneg _ (by decide)
  · rw [Int.fmod_eq_emod_of_nonneg _ (by decide)]; exact Int.emod_lt_of_pos _ (by decide)
section
variable {c : Cx} {sc : Scope} {m : Lc} {μ ι ρ : Led} {k : Nat}
theorem W.c_cup {l : Addr} {many : Nat} {t : Tok} {Q : Po Value} (O : c.Ok sc k) (h : Brk l μ) (h1 : 1 ≤ many) (h2 : many ≤ 12) (hk : 1 ≤ k) (q : ∀ (g : Nat) u μ' ι', g < many → Sub ι ι' → Brk l μ' → Q (.int (g : Int) u) m (μ' ++ ρ) ι') :
    c.W (PySem.call (.ref 959) [.ref l, .int (many : Int) t]) Q m (μ ++ ρ) ι :=
  W.callS (cup h h1 h2) O hk fun r μ' ι' s g => by obtain ⟨⟨g, u, rfl, hg⟩, hB⟩ := g; exact q g u μ' ι' hg s hB
end
theorem word4 {ι : Led} {v : Value} {k t : Str} {a b : Int} {t1 t2 t3 t4 : Tok} {d : Value} (I : InstF ι v 941 [(s_is_first, d), (s_value, .none), (s_column, .int a t3), (s_line, .int b t4), (s_text, .str t t1), (s_kind, .str k t2)]) : WordV ι v k t .none := ⟨⟨_, _, _, _, _, _, _, I⟩, rfl, rfl⟩
theorem word5 {ι : Led} {v x : Value} {k t : Str} {a b : Int} {t1 t2 t3 t4 : Tok} {d : Value} (h1 : handedIn x = true) (h2 : plainIs x .none = true) (I : InstF ι v 941 [(s_is_first, d), (s_value, x), (s_column, .int a t3), (s_line, .int b t4), (s_text, .str t t1), (s_kind, .str k t2)]) : WordV ι v k t x := ⟨⟨_, _, _, _, _, _, _, I⟩, h1, h2⟩
theorem sign {ι : Led} {s : Str} {t : Tok} : Spec 5 966 [.str s t] [] ι (fun r μ' ι' => WordV ι' r s_special s .none ∧ μ' = []) := by
  refine' Spec.intro (k := 4) (loc := [(s_text, .str s t)]) hd.z966 hd.z965 ?ho ?hob ?hco' ?hcd ?hbind ?hloc ?hco ?hgen ?hk ?hcell ?hb
  walk_at "M.fn"
  intro c ρ O
  walk_at "ry"
  rename_i s1 I
  exact Ends.ret (μ := []) (ρ := ρ) s1 ⟨word4 I, rfl⟩
section
variable {c : Cx} {sc : Scope} {m : Lc} {μ ι ρ : Led} {k : Nat}
theorem W.c_sign {s : Str} {t : Tok} {Q : Po Value} (O : c.Ok sc k) (hk : 5 ≤ k) (q : ∀ r ι', Sub ι ι' → WordV ι' r s_special s .none → Q r m μ ι') : c.W (PySem.call (.ref 966) [.str s t]) Q m μ ι :=
  W.callS (μ := []) sign O hk fun r μ' ι' s' g => by obtain ⟨w, rfl⟩ := g; exact q r ι' s' w
end
local macro_rules | `(tactic| walk_at "M.word") => `(tactic| first | (refine' WordV.mono (word4 ?I) ?s; (case I => with_reducible assumption); (case s => walk_at "M.sub")) | (refine' WordV.mono (word5 ?h1 ?h2 ?I) ?s; (case I => with_reducible assumption); (case h1 => rfl); (case h2 => rfl); (case s => walk_at "M.sub")))
local macro_rules | `(tactic| walk_at "M.rowv") => `(tactic| first | exact RowV.str _ _ | exact RowV.int _ _ | exact RowV.bool _ | (refine' RowV.tupF ?t ?r; (case t => walk_at "M.fact"); (case r => walk_at "M.rowvs")) | (refine' RowV.mono ?s ?h; walk_at "M.mono"))
local macro_rules | `(tactic| walk_at "M.rowvs") => `(tactic| first | exact RowVs.nil | (refine' RowVs.cons ?a ?b; (case a => walk_at "M.rowv"); (case b => walk_at "M.rowvs")))
local macro_rules | `(tactic| walk_at "M.row3") => `(tactic| walk_at "M.rowv")
def RowOk (D : Nat) (x : PyData) : Prop := x.canLay0 = true ∧ x.depth ≤ D
theorem RowOk.more {D D' : Nat} {x : PyData} (h : RowOk D x) (k : D ≤ D') : RowOk D' x := ⟨h.1, Nat.le_trans h.2 k⟩
theorem allLay {xs : List PyData} (h : ∀ x ∈ xs, x.canLay0 = true) : PyData.canLayAll0 xs = true := by
  induction xs with
  | nil => simp only [PyData.canLayAll0]
  | cons x xs ih => simp only [PyData.canLayAll0, Bool.and_eq_true]; exact ⟨h x (.head _), ih fun y hy => h y (.tail _ hy)⟩
theorem allDepth {D : Nat} {xs : List PyData} (h : ∀ x ∈ xs, x.depth ≤ D) : PyData.depthAll xs ≤ D := by
  induction xs with
  | nil => simp only [PyData.depthAll]; exact Nat.zero_le _
  | cons x xs ih => simp only [PyData.depthAll]; exact Nat.max_le.mpr ⟨h x (.head _), ih fun y hy => h y (.tail _ hy)⟩
theorem RowOk.tuple {D : Nat} {xs : List PyData} (h : ∀ x ∈ xs, RowOk D x) : RowOk (D + 1) (.tuple xs) :=
  ⟨by simp only [PyData.canLay0]; exact allLay fun x hx => (h x hx).1, by simp only [PyData.depth]; exact Nat.succ_le_succ (allDepth fun x hx => (h x hx).2)⟩
theorem RowOk.str {D : Nat} {s : Str} (h : PyData.strOk s = true) : RowOk D (.str s) := ⟨by simp only [PyData.canLay0]; exact h, by simp only [PyData.depth]; exact Nat.zero_le _⟩
theorem RowOk.int {D : Nat} {i : Int} : RowOk D (.int i) := ⟨by simp only [PyData.canLay0], by simp only [PyData.depth]; exact Nat.zero_le _⟩
theorem RowOk.bool {D : Nat} {b : Bool} : RowOk D (.bool b) := ⟨by simp only [PyData.canLay0], by simp only [PyData.depth]; exact Nat.zero_le _⟩
noncomputable abbrev LitI (n : Int) : PyData := .tuple [.str s_plit, .str s_int, .int n]
theorem litOk (D : Nat) (n : Int) : RowOk (D + 1) (LitI n) := .tuple fun x hx => by
  rcases List.mem_cons.mp hx with rfl | hx
  · exact .str (by kernel_rfl!)
  rcases List.mem_cons.mp hx with rfl | hx
  · exact .str (by kernel_rfl!)
  rw [List.mem_singleton.mp hx]; exact .int
def NumPos (n : Nat) (ι : Led) (v : Value) : Prop := ∃ wl row il w l t u t2 u2, TupF ι v [wl, row, il] ∧ ListF ι wl [w] ∧ WordV ι w s_int t (.int (n : Int) u) ∧ RowV ι row (LitI n) ∧ ListF ι il [l] ∧ InstF ι l 290 [(s_value, .int (n : Int) u2), (s_kind, .str s_int t2), (s_place, .none)]
def NumNeg (n : Nat) (ι : Led) (v : Value) : Prop := ∃ wl row il w w' l o t u t1 t2 u2, TupF ι v [wl, row, il] ∧ ListF ι wl [w', w] ∧ WordV ι w' s_varsym h_12 .none ∧ WordV ι w s_int t (.int (n : Int) u) ∧ RowV ι row (LitI (0 - (n : Int))) ∧ ListF ι il [o, l] ∧
  InstF ι o 344 [(s_is_con, .bool false), (s_name, .str h_12 t1), (s_place, .none)] ∧ InstF ι l 290 [(s_value, .int (n : Int) u2), (s_kind, .str s_int t2), (s_place, .none)]
theorem small_log {n : Nat} (h : n ≤ 12) : ((n : Int)).natAbs.log2 < 1920 := by
  rw [Int.natAbs_natCast]
  exact (by decide : ∀ m : Fin 13, m.val.log2 < 1920) ⟨n, by walk_at "o"⟩
theorem number_pos {ι : Led} {n : Nat} {u : Tok} (hn : n ≤ 12) : Spec 6 973 [.int (n : Int) u] [] ι (fun r μ' ι' => NumPos n ι' r ∧ μ' = []) := by
  refine' Spec.intro (k := 5) (loc := [(s_value, .int (n : Int) u)]) hd.z973 hd.z972 ?ho ?hob ?hco' ?hcd ?hbind ?hloc ?hco ?hgen ?hk ?hcell ?hb
  walk_at "M.fn"
  intro c ρ O
  have e : (if (n : Int) < 0 then -(n : Int) else n) = n := if_neg (by walk_at "o")
  have hlt : decide ((n : Int) < 0) = false := decide_eq_false (by walk_at "o")
  walk_at "ry"
  refine W.absI fun _ => ?_
  rw [e]
  walk_at "ry"
  refine W.strI (small_log hn) fun _ => ?_
  walk_at "ry"
  refine W.absI fun _ => ?_
  rw [e]
  walk_at "ry"
  refine Ends.ret (μ := []) (ρ := ρ) (by walk_at "M.sub") ⟨⟨_, _, _, _, _, _, _, _, _, by walk_at "M.fact", by walk_at "M.fact", by walk_at "M.word", by walk_at "M.row3", by walk_at "M.fact", by walk_at "M.fact"⟩, rfl⟩
theorem number_neg {ι : Led} {n : Nat} {u : Tok} (h1 : 1 ≤ n) (hn : n ≤ 12) {i : Int} (hi : i = 0 - (n : Int)) : Spec 6 973 [.int i u] [] ι (fun r μ' ι' => NumNeg n ι' r ∧ μ' = []) := by
  refine' Spec.intro (k := 5) (loc := [(s_value, .int i u)]) hd.z973 hd.z972 ?ho ?hob ?hco' ?hcd ?hbind ?hloc ?hco ?hgen ?hk ?hcell ?hb
  walk_at "M.fn"
  intro c ρ O
  have e : (if i < 0 then -i else i) = n := by rw [if_pos (by walk_at "o")]; walk_at "o"
  have hlt : decide (i < 0) = true := decide_eq_true (by walk_at "o")
  walk_at "ry"
  refine W.absI fun _ => ?_
  rw [e]
  walk_at "ry"
  refine W.strI (small_log hn) fun _ => ?_
  walk_at "ry"
  refine W.absI fun _ => ?_
  rw [e]
  walk_at "ry"
  refine W.iteT hlt ?_
  walk_at "ry"
  refine W.iteT hlt ?_
  walk_at "ry"
  refine W.absI fun _ => ?_
  rw [e]
  walk_at "ry"
  subst hi
  refine Ends.ret (μ := []) (ρ := ρ) (by walk_at "M.sub") ⟨⟨_, _, _, _, _, _, _, _, _, _, _, _, by walk_at "M.fact", by walk_at "M.fact", by walk_at "M.word", by walk_at "M.word", by walk_at "M.row3", by walk_at "M.fact", by walk_at "M.fact", by walk_at "M.fact"⟩, rfl⟩
theorem lt4 {g : Nat} (h : g < 4) : g = 0 ∨ g = 1 ∨ g = 2 ∨ g = 3 := by walk_at "o"
theorem lt3 {g : Nat} (h : g < 3) : g = 0 ∨ g = 1 ∨ g = 2 := by walk_at "o"
structure OpB (ι : Led) (v : Value) : Prop where
  ex : ∃ wl row nd ws n u, TupF ι v [wl, row, nd] ∧ ListF ι wl ws ∧ OpSeg ι ws n ∧ RowV ι row (.tuple [.str s_op, .str n, .bool true]) ∧ PyData.strOk n = true ∧ InstF ι nd 344 [(s_is_con, .bool true), (s_name, .str n u), (s_place, .none)] ∧ ws.length ≤ 3
theorem operator {l : Addr} {μ ι : Led} (h : Brk l μ) : Spec 6 980 [.ref l] μ ι (fun r μ' ι' => OpB ι' r ∧ Brk l μ') := by
  refine' Spec.intro (k := 5) (loc := [(s_brook, .ref l)]) hd.z980 hd.z979 ?ho ?hob ?hco' ?hcd ?hbind ?hloc ?hco ?hgen ?hk ?hcell ?hb
  walk_at "M.fn"
  intro c ρ O
  walk_at "ry"
  refine W.c_cup (many := 4) O h (by decide) (by decide) (by decide) fun g u μ' ι' hg s hB => ?_
  rcases lt4 hg with rfl | rfl | rfl | rfl
  · walk_at "ry"
    exact Ends.ret (by walk_at "M.sub") ⟨⟨_, _, _, _, h_10, _, by walk_at "M.fact", by walk_at "M.fact", .colon (by walk_at "M.word"), by walk_at "M.rowv", by kernel_rfl!, by walk_at "M.fact", by simp⟩, hB⟩
  · walk_at "ry"
    exact Ends.ret (by walk_at "M.sub") ⟨⟨_, _, _, _, h_21, _, by walk_at "M.fact", by walk_at "M.fact", .sym (by walk_at "M.word") (.inl ⟨rfl, rfl⟩), by walk_at "M.rowv", by kernel_rfl!, by walk_at "M.fact", by simp⟩, hB⟩
  · walk_at "ry"
    exact Ends.ret (by walk_at "M.sub") ⟨⟨_, _, _, _, h_23, _, by walk_at "M.fact", by walk_at "M.fact", .sym (by walk_at "M.word") (.inr ⟨_, _, rfl, by kernel_rfl!, by decide +kernel⟩), by walk_at "M.rowv", by kernel_rfl!, by walk_at "M.fact", by simp⟩, hB⟩
  · walk_at "ry"
    refine W.c_sign O (by decide) fun r1 ι₂ s₂ w1 => ?_
    walk_at "ry"
    refine W.c_sign O (by decide) fun r3 ι₃ s₃ w3 => ?_
    walk_at "ry"
    exact Ends.ret (by walk_at "M.sub") ⟨⟨_, _, _, _, s_Cat, _, by walk_at "M.fact", by walk_at "M.fact", .tick (by walk_at "M.fact") (by walk_at "M.word") (by walk_at "M.fact") (.inl ⟨rfl, rfl⟩), by walk_at "M.rowv", by kernel_rfl!, by walk_at "M.fact", by simp⟩, hB⟩
noncomputable def KA (d : Nat) : Nat := 7 + 5 * d
noncomputable def JA (d : Nat) : Nat := 2 + 6 * d
noncomputable def EA (d : Nat) : Nat := 6 + 5 * d
noncomputable def LA : Nat → Nat
  | 0 => 3
  | d + 1 => 24 * LA d + 68
structure AtomB (d : Nat) (ι : Led) (v : Value) : Prop where
  ex : ∃ wl row nd ws x, TupF ι v [wl, row, nd] ∧ ListF ι wl ws ∧ RowV ι row x ∧ RowOk (JA d) x ∧ ws.length ≤ LA d ∧ RAtom (KA d) (JA d) ι ws x ∧ RPart (KA d + 1) (JA d + 2) ι ws x ∧ Exp (EA d) (JA d) ι nd x
structure PartB (d : Nat) (ι : Led) (v : Value) : Prop where
  ex : ∃ wl row il ws x is, TupF ι v [wl, row, il] ∧ ListF ι wl ws ∧ RowV ι row x ∧ RowOk (JA d + 2) x ∧ ws.length ≤ 3 + 2 * LA d ∧ ListF ι il is ∧ is.length ≤ 2 ∧ PartI (EA d + 2) (JA d + 2) ι is x ∧ RPart (KA d + 1) (JA d + 2) ι ws x
structure PatB (d : Nat) (ι : Led) (v : Value) : Prop where
  ex : ∃ wl row il ws x us i0 x0, TupF ι v [wl, row, il] ∧ ListF ι wl ws ∧ RowV ι row x ∧ RowOk (JA d + 4) x ∧ ws.length ≤ 8 * LA d + 21 ∧ ListF ι il (us.flatMap (·.1)) ∧ UnOk (EA d + 2) (JA d + 2) ι false us ∧ us.head? = some (i0, x0) ∧ rowOf x0 us = x ∧ us.length ≤ 7 ∧ (us.flatMap (·.1)).length ≤ 14 ∧ RPat (KA d + 2) (JA d + 4) ι ws x
theorem un_one {K J : Nat} {ι : Led} {us : List Un} {i0 : List Value} {x0 v : PyData} (hu : UnOk K J ι false us) (hh : us.head? = some (i0, x0)) (hl : (us.flatMap (·.1)).length = 1) : ∃ v, us.flatMap (·.1) = [v] ∧ Exp K J ι v (rowOf x0 us) := by
  match us, hu, hh, hl with
  | [u], hu, hh, hl =>
    obtain ⟨hp, -⟩ := hu
    cases hh
    rcases hp with ⟨v, e, h⟩ | ⟨o, l, b, n, t, i, u, t2, e, -⟩
    · exact ⟨v, by simp at e ⊢; exact e, h⟩
    · simp at e hl; rw [e] at hl; simp at hl
  | u :: u2 :: us, hu, hh, hl =>
    refine oAA hu ?_; clear hu; intro hp zo1 _; obtain ⟨v2, n, t, p, e2, -⟩ := zo1
    rcases hp with ⟨v, e, h⟩ | ⟨o, l, b, n, t, i, u, t2, e, -⟩
    · simp [e, e2] at hl
    · simp [e, e2] at hl
theorem whole {K J : Nat} {ι : Led} {t wl row il : Value} {us : List Un} {i0 : List Value} {x0 : PyData} (hK : 5 ≤ K) (hJ : 1 ≤ J) (ht : TupF ι t [wl, row, il]) (hl : ListF ι il (us.flatMap (·.1))) (hu : UnOk K J ι false us) (hh : us.head? = some (i0, x0)) (hn : us.length ≤ 7) (hs : (us.flatMap (·.1)).length ≤ 14) :
    Spec 5 987 [t] [] ι (fun r μ' ι' => Exp (K + 2) (J + 2) ι' r (rowOf x0 us) ∧ μ' = []) := by
  refine' Spec.intro (k := 4) (loc := [(s_told, t)]) hd.z987 hd.z986 ?ho ?hob ?hco' ?hcd ?hbind ?hloc ?hco ?hgen ?hk ?hcell ?hb
  walk_at "M.fn"
  intro c ρ O
  walk_at "ry"
  refine W.titem (j := 2) ht rfl ?_
  walk_at "ry"
  refine W.len_ hl (by walk_at "o") fun _ => ?_
  walk_at "ry"
  show ite _ _ _
  by_cases e : (us.flatMap (·.1)).length = 1
  · refine W.iteT (by rw [e]; rfl) ?_
    refine oEA (un_one (v := x0) hu hh e) fun v e1 hx => ?_
    walk_at "ry"
    refine W.titem (j := 2) ht rfl ?_
    walk_at "ry"
    refine W.item_ hl (by decide) (by decide) (x := v) (by rw [e1]; rfl) ?_
    exact Ends.ret (μ := []) (ρ := ρ) Sub.refl ⟨hx.more (by walk_at "o") (by walk_at "o"), rfl⟩
  · refine W.iteF (by rw [beq_eq_false_iff_ne]; walk_at "o") ?_
    walk_at "ry"
    refine W.titem (j := 2) ht rfl ?_
    walk_at "ry"
    refine Ends.ret (μ := []) (ρ := ρ) (by walk_at "M.sub") ⟨exp_infix hK hJ (by walk_at "M.fact") (hl.mono (by walk_at "M.sub")) (hu.mono (by walk_at "M.sub")) (by walk_at "o") (by walk_at "o") hh, rfl⟩
section
variable {c : Cx} {sc : Scope} {m : Lc} {μ ι ρ : Led} {k : Nat}
theorem W.c_whole {K J : Nat} {t wl row il : Value} {us : List Un} {i0 : List Value} {x0 : PyData} {Q : Po Value} (O : c.Ok sc k) (hK : 5 ≤ K) (hJ : 1 ≤ J) (ht : TupF ι t [wl, row, il]) (hl : ListF ι il (us.flatMap (·.1))) (hu : UnOk K J ι false us) (hh : us.head? = some (i0, x0)) (hn : us.length ≤ 7) (hs : (us.flatMap (·.1)).length ≤ 14) (hk : 5 ≤ k)
    (q : ∀ r ι', Sub ι ι' → Exp (K + 2) (J + 2) ι' r (rowOf x0 us) → Q r m μ ι') : c.W (PySem.call (.ref 987) [t]) Q m μ ι :=
  W.callS (μ := []) (whole hK hJ ht hl hu hh hn hs) O hk fun r μ' ι' s g => by obtain ⟨w, rfl⟩ := g; exact q r ι' s w
theorem W.c_oper2 {l : Addr} {Q : Po Value} (O : c.Ok sc k) (h : Brk l μ) (hk : 6 ≤ k) (q : ∀ r μ' ι', Sub ι ι' → OpB ι' r → Brk l μ' → Q r m (μ' ++ ρ) ι') : c.W (PySem.call (.ref 980) [.ref l]) Q m (μ ++ ρ) ι :=
  W.callS (operator h) O hk fun r μ' ι' s g => q r μ' ι' s g.1 g.2
theorem W.c_pos {n : Nat} {u : Tok} {Q : Po Value} (O : c.Ok sc k) (hn : n ≤ 12) (hk : 6 ≤ k) (q : ∀ r ι', Sub ι ι' → NumPos n ι' r → Q r m μ ι') : c.W (PySem.call (.ref 973) [.int (n : Int) u]) Q m μ ι :=
  W.callS (μ := []) (number_pos hn) O hk fun r μ' ι' s g => by obtain ⟨w, rfl⟩ := g; exact q r ι' s w
theorem W.c_neg {n : Nat} {i : Int} {u : Tok} {Q : Po Value} (O : c.Ok sc k) (h1 : 1 ≤ n) (hn : n ≤ 12) (hi : i = 0 - (n : Int)) (hk : 6 ≤ k) (q : ∀ r ι', Sub ι ι' → NumNeg n ι' r → Q r m μ ι') : c.W (PySem.call (.ref 973) [.int i u]) Q m μ ι :=
  W.callS (μ := []) (number_neg h1 hn hi) O hk fun r μ' ι' s g => by obtain ⟨w, rfl⟩ := g; exact q r ι' s w
end
theorem abc_item {g : Nat} (h : g < 3) : ∃ n, Txt.item s_abc (g : Int) = n ∧ (n = s_a ∨ n = s_b ∨ n = s_c) := by
  rcases lt3 h with rfl | rfl | rfl
  · exact ⟨s_a, by kernel_rfl!, .inl rfl⟩
  · exact ⟨s_b, by kernel_rfl!, .inr (.inl rfl)⟩
  · exact ⟨s_c, by kernel_rfl!, .inr (.inr rfl)⟩
theorem abc_ok {n : Str} (h : n = s_a ∨ n = s_b ∨ n = s_c) : PyData.strOk n = true := by rcases h with rfl | rfl | rfl <;> kernel_rfl!
theorem rowOk2 {D : Nat} {s : Str} {y : PyData} (h : PyData.strOk s = true) (hy : RowOk D y) : RowOk (D + 1) (.tuple [.str s, y]) := .tuple fun x hx => by
  rcases List.mem_cons.mp hx with rfl | hx
  · exact .str h
  rw [List.mem_singleton.mp hx]; exact hy
theorem rowOk1 {D : Nat} {s : Str} (h : PyData.strOk s = true) : RowOk (D + 1) (.tuple [.str s]) := .tuple fun x hx => by
  rw [List.mem_singleton.mp hx]; exact .str h
theorem rowOk3 {D : Nat} {s t : Str} {y : PyData} (h : PyData.strOk s = true) (ht : PyData.strOk t = true) (hy : RowOk D y) : RowOk (D + 1) (.tuple [.str s, .str t, y]) := .tuple fun x hx => by
  rcases List.mem_cons.mp hx with rfl | hx
  · exact .str h
  rcases List.mem_cons.mp hx with rfl | hx
  · exact .str ht
  rw [List.mem_singleton.mp hx]; exact hy
theorem RowOk.nilT {D : Nat} : RowOk (D + 1) (.tuple []) := .tuple fun x hx => by cases hx
theorem LA_ge : ∀ d, 3 ≤ LA d
  | 0 => Nat.le_refl _
  | d + 1 => by unfold LA; walk_at "o"
theorem AtomB.plain {d K J E : Nat} {ι : Led} {v wl row nd : Value} {ws : List Value} {x : PyData} (ht : TupF ι v [wl, row, nd]) (hl : ListF ι wl ws) (hr : RowV ι row x) (ok : RowOk 2 x) (hn : ws.length ≤ 3) (ra : RAtom K J ι ws x) (hf : First plainTok ι ws) (he : Exp E J ι nd x) (hK : K ≤ 7) (hJ : J ≤ 2) (hE : E ≤ 6) : AtomB d ι v := by
  have r1 : RAtom (KA d) (JA d) ι ws x := ra.more (by unfold KA; walk_at "o") (by unfold JA; walk_at "o")
  exact ⟨wl, row, nd, ws, x, ht, hl, hr, ok.more (by unfold JA; walk_at "o"), Nat.le_trans hn (LA_ge d), r1, (part_atom (by unfold KA; walk_at "o") r1 (.inl hf)).more (Nat.le_refl _) (by walk_at "o"), he.more (by unfold EA; walk_at "o") (by unfold JA; walk_at "o")⟩
section
variable {c : Cx} {sc : Scope} {m : Lc} {μ ι ρ : Led} {k : Nat}
theorem W.itemAbc {value slice : Expr} {t u : Tok} {g : Nat} {Q : Po Value} (hg : g < 3) (q : ∀ n t, (n = s_a ∨ n = s_b ∨ n = s_c) → Q (.str n t) m μ ι)
    (hs : subscripted slice false (.str s_abc t) (.int (g : Int) u) = operate [.str s_abc t, .int (g : Int) u] (getItem (.str s_abc t) (.int (g : Int) u)) := by with_unfolding_all rfl)
    (hg' : ∀ r, letTemporaryGo value (.str s_abc t) r = pure () := by intro _; with_unfolding_all rfl) : c.W (subscriptTail value slice (.str s_abc t) (.int (g : Int) u)) Q m μ ι := by
  refine oEA (abc_item hg) fun n e hn => ?_
  refine W.itemS (by show g < 3; exact hg) (by walk_at "o") (fun t => ?_) hs hg'
  rw [e]
  exact q n t hn
end
theorem AtomB.con {d : Nat} {ι : Led} {v wl row nd w : Value} {n t : Str} {y u : Value} {tk : Tok} (ht : TupF ι v [wl, row, nd]) (hl : ListF ι wl [w]) (hr : RowV ι row (.tuple [.str s_pcon, .str n, .tuple []])) (ok : RowOk 2 (.tuple [.str s_pcon, .str n, .tuple []]))
    (hw : WordV ι w s_con t y) (hf : FullN y t n) (hI : InstF ι nd 263 [(s_uses, u), (s_name, .str n tk), (s_place, .none)]) : AtomB d ι v := by
  have r1 : RAtom (KA d) (JA d) ι [w] (.tuple [.str s_pcon, .str n, .tuple []]) := (atom_con hw hf).more (by unfold KA; walk_at "o") (by unfold JA; walk_at "o")
  have r2 : RPart (KA d + 1) (0 + 2) ι ([w] ++ ([] : List (List Value × PyData)).flatMap (·.1)) (.tuple [.str s_pcon, .str n, .tuple (([] : List (List Value × PyData)).map (·.2))]) := part_con (K := KA d) (J := 0) (as := []) (by unfold KA; walk_at "o") (.con hw hf) (fun _ h => by cases h) (by decide)
  have e1 : Exp (4 + 2) (0 + 2) ι nd (.tuple [.str s_pcon, .str n, .tuple (([] : List (Value × PyData)).map (·.2))]) := exp_app (K := 4) (J := 0) (by decide) (.con hI) (by decide)
  exact ⟨wl, row, nd, [w], _, ht, hl, hr, ok.more (by unfold JA; walk_at "o"), Nat.le_trans (by simp) (LA_ge d), r1, r2.more (Nat.le_refl _) (by walk_at "o"), e1.more (by unfold EA; walk_at "o") (by unfold JA; walk_at "o")⟩
theorem atom0 {l : Addr} {μ ι : Led} {u : Tok} {i : Int} (hi : i = 0) (h : Brk l μ) : Spec 8 1001 [.ref l, .int i u] μ ι (fun r μ' ι' => AtomB 0 ι' r ∧ Brk l μ') := by
  subst hi
  refine' Spec.intro (k := 7) (loc := [(s_deep, .int 0 u), (s_brook, .ref l)]) hd.z1001 hd.z1000 ?ho ?hob ?hco' ?hcd ?hbind ?hloc ?hco ?hgen ?hk ?hcell ?hb
  walk_at "M.fn"
  intro c ρ O
  walk_at "ry"
  refine W.c_cup (many := 6) O h (by decide) (by decide) (by decide) fun g u1 μ1 ι1 hg s1 hB1 => ?_
  walk_at "ry"
  refine W.c_cup (many := 3) O hB1 (by decide) (by decide) (by decide) fun g' u2 μ2 ι2 hg' s2 hB2 => ?_
  refine W.itemAbc hg' fun n tn hn => ?_
  have hcase : g = 0 ∨ g = 1 ∨ g = 2 ∨ g = 3 ∨ g = 4 ∨ g = 5 := by walk_at "o"
  rcases hcase with rfl | rfl | rfl | rfl | rfl | rfl
  · walk_at "ry"
    exact Ends.ret (by walk_at "M.sub") ⟨AtomB.plain (by walk_at "M.fact") (by walk_at "M.fact") (by walk_at "M.rowv") (rowOk2 (D := 1) (by kernel_rfl!) (.str (abc_ok hn))) (by simp) (atom_var (by walk_at "M.word")) ⟨_, _, _, _, _, rfl, by walk_at "M.word", by kernel_rfl!⟩ (exp_var hn (by walk_at "M.fact")) (by decide) (by decide) (by decide), by assumption⟩
  · walk_at "ry"
    exact Ends.ret (by walk_at "M.sub") ⟨AtomB.plain (by walk_at "M.fact") (by walk_at "M.fact") (by walk_at "M.rowv") (rowOk2 (D := 1) (by kernel_rfl!) (.str (abc_ok hn))) (by simp) (atom_var (by walk_at "M.word")) ⟨_, _, _, _, _, rfl, by walk_at "M.word", by kernel_rfl!⟩ (exp_var hn (by walk_at "M.fact")) (by decide) (by decide) (by decide), by assumption⟩
  · walk_at "ry"
    refine W.c_cup (many := 12) O (by assumption) (by decide) (by decide) (by walk_at "o") fun g2 u2 μ3 ι3 hg2 s3 hB3 => ?_
    walk_at "ry"
    refine W.c_pos O (by walk_at "o") (by walk_at "o") fun r ι4 s4 hr => ?_
    refine oEEEEEEEEE hr ?_; clear hr; intro wl row il wd lt tt uu t2 u2' zz; refine oAAAAA zz ?_; clear zz; intro ht hl hw hrow hil hI
    walk_at "ry"
    refine W.titem (j := 0) ht rfl ?_
    walk_at "ry"
    refine W.titem (j := 1) ht rfl ?_
    walk_at "ry"
    refine W.titem (j := 2) ht rfl ?_
    walk_at "ry"
    refine W.item_ hil (by decide) (by decide) (x := lt) rfl ?_
    walk_at "ry"
    rename_i tres s5 ht5
    exact Ends.ret (by walk_at "M.sub") ⟨AtomB.plain ht5 (hl.mono s5) (hrow.mono s5) (litOk 1 _) (by simp) (atom_int (hw.mono s5)) ⟨_, _, _, _, _, rfl, hw.mono s5, by kernel_rfl!⟩ (exp_lit (hI.mono s5)) (by decide) (by decide) (by decide), hB3⟩
  · walk_at "ry"
    refine Ends.ret (by walk_at "M.sub") ⟨AtomB.plain (by walk_at "M.fact") (by walk_at "M.fact") (by walk_at "M.rowv") (rowOk1 (D := 1) (by kernel_rfl!)) (by simp) (atom_wild (by walk_at "M.word")) ⟨_, _, _, _, _, rfl, by walk_at "M.word", by kernel_rfl!⟩ (exp_node (row_PWild (by walk_at "M.fact")) (by walk_at "M.fact") (.inl rfl)) (by decide) (by decide) (by decide), by assumption⟩
  · walk_at "ry"
    refine Ends.ret (by walk_at "M.sub") ⟨AtomB.con (by walk_at "M.fact") (by walk_at "M.fact") (by walk_at "M.rowv") (rowOk3 (by kernel_rfl!) (by kernel_rfl!) .nilT) (by walk_at "M.word") (.inr ⟨_, _, rfl, by kernel_rfl!, by decide +kernel⟩) (by walk_at "M.fact"), by assumption⟩
  · walk_at "ry"
    refine Ends.ret (by walk_at "M.sub") ⟨AtomB.plain (by walk_at "M.fact") (by walk_at "M.fact") (by walk_at "M.rowv") (rowOk3 (D := 1) (by kernel_rfl!) (by kernel_rfl!) .int) (by simp) (atom_chr (by walk_at "M.word")) ⟨_, _, _, _, _, rfl, by walk_at "M.word", by kernel_rfl!⟩ (exp_lit (by walk_at "M.fact")) (by decide) (by decide) (by decide), by assumption⟩
section
variable {c : Cx} {sc : Scope} {m : Lc} {μ ι ρ : Led} {k : Nat}
noncomputable abbrev sliceO (a b : Nat) (t u : Tok) : Obj := { cls := .type "slice", data := .fields #[.int (a : Int) t, .int (b : Int) u, .none] }
theorem W.sliceE {lo hi : Expr} {p : Pos} {Q : Po Value}
    (h : c.W (eval lo (c.env sc)) (fun vl => c.W (eval hi (c.env sc)) fun vu m μ ι => ∃ (a b : Nat) (t u : Tok), vl = .int (a : Int) t ∧ vu = .int (b : Int) u ∧ ∀ l ι', Sub ι ι' → (l, sliceO a b t u) ∈ ι' → Q (.ref l) m μ ι') m μ ι) :
    c.W (eval (.Slice (some lo) (some hi) none p) (c.env sc)) Q m μ ι := .mk fun hp tk S => by
  refine wpAny_Slice ?_
  rw [evalPart_some]
  refine W.open (h.run hp tk S) fun vl h2 tk2 m2 μ2 ι2 S2 q2 => ?_
  rw [evalPart_some]
  refine W.open (q2.run h2 tk2 S2) fun vu h3 tk3 m3 μ3 ι3 S3 q3 => ?_
  refine oEEEEAA q3 ?_; clear q3; intro a b t u zo4 zo5 q; obtain rfl := zo4; obtain rfl := zo5
  rw [evalPart_none]
  refine wpAny_pure ?_
  refine oEA S3.F fun mf F hm => ?_
  exact ⟨_, tk3, m3, μ3, (h3.objs.size, _) :: ι3, rfl, S3.addI (F.push _) hm (News.push F S3.N _) (fun q hq => Heap.lt_size (S3.N q hq).1), q _ _ Sub.cons (.head _)⟩
theorem W.sliceT {value slice : Expr} {v : Value} {items : List Value} {l : Addr} {a b : Nat} {t u : Tok} {Q : Po Value} (hl : ListF ι v items) (hs : (l, sliceO a b t u) ∈ ι) (hb : b ≤ items.length) (hab : a ≤ b) (hsz : items.length ≤ sizeLine)
    (q : ∀ v ι', Sub ι ι' → ListF ι' v ((items.drop a).take (b - a)) → Q v m μ ι')
    (ht : ∀ o, subscripted slice false (.ref o) (.ref l) = operate [.ref l, .ref o] (getItem (.ref o) (.ref l)) := by intro _; with_unfolding_all rfl) :
    c.W (subscriptTail value slice v (.ref l)) Q m μ ι := .mk fun hp tk S => by
  refine oEA (hl.isList S) fun o zo1 hl' => ?_; obtain rfl := zo1
  refine oEA S.F fun mf F hm => ?_
  have N2 := News.push F S.N { cls := .type "list", data := .seq (slicePick items.toArray (some a) (some b) none) }
  have F2 := F.push { cls := .type "list", data := .seq (slicePick items.toArray (some a) (some b) none) }
  have hg : Heap.IsSliceOf hp l (.int (a : Int) t) (.int (b : Int) u) .none := ⟨_, (S.N _ (List.mem_append.mpr (.inr hs))).1, rfl, rfl⟩
  refine tail_any hl'.typeIs slot_list_getitem.lookup (wpAny_getItem_list_slice hl' hg (.int _ _) (.int _ _) .none (by simp) ?_ (by simpa using hsz)) (ht _)
  rw [slicePick_run items.toArray a b (by simpa using hb) hab] at N2 F2 ⊢
  exact ⟨_, tk, m, μ, (hp.objs.size, _) :: ι, rfl, S.addI F2 hm N2 (fun q hq => Heap.lt_size (S.N q hq).1), q _ _ Sub.cons ⟨_, _, rfl, .head _, rfl, 0, rfl⟩⟩
end
structure Pt where
  cw : Value
  pw : List Value
  row : PyData
  rv : Value
  e : Value
noncomputable abbrev Pt.nx (p : Pt) : Nextp := ⟨p.cw, p.pw, p.row⟩
noncomputable def jw : List Pt → List Value
  | [] => []
  | p :: ps => p.pw ++ (ps.map Pt.nx).flatMap Nextp.ws
theorem jw_add {p : Pt} : ∀ {ps : List Pt}, jw (ps ++ [p]) = jw ps ++ (if ps.length = 0 then [] else [p.cw]) ++ p.pw
  | [] => by simp [jw]
  | q :: ps => by simp [jw, List.flatMap_append]
def PatS (d : Nat) : Prop := ∀ {l : Addr} {μ ι : Led} {i : Int} {u : Tok}, i = (d : Int) → Brk l μ → Spec (10 + 4 * d) 1015 [.ref l, .int i u] μ ι (fun r μ' ι' => PatB d ι' r ∧ Brk l μ')
structure PtOk (d : Nat) (ι : Led) (p : Pt) : Prop where
  pat : RPat (KA d + 2) (JA d + 4) ι p.pw p.row
  ok : RowOk (JA d + 4) p.row
  len : p.pw.length ≤ 8 * LA d + 21
  exp : Exp (EA d + 4) (JA d + 4) ι p.e p.row
  rowv : RowV ι p.rv p.row
theorem rowvs {ι : Led} : ∀ {ps : List Pt}, (∀ p ∈ ps, RowV ι p.rv p.row) → RowVs ι (ps.map (·.rv)) (ps.map (·.row))
  | [], _ => .nil
  | p :: ps, h => .cons (h p (.head _)) (rowvs fun q hq => h q (.tail _ hq))
theorem PtOk.mono {d : Nat} {ι ι' : Led} {p : Pt} (h : PtOk d ι p) (s : Sub ι ι') : PtOk d ι' p := ⟨h.pat.mono s, h.ok, h.len, h.exp.mono s, h.rowv.mono s⟩
def CwOk (ι : Led) (p : Pt) : Prop := WordV ι p.cw s_special h_5 .none
structure LstB (d q : Nat) (b e : Str) (ι : Led) (v : Value) : Prop where
  ex : ∃ wl rt fl v1 v2 p ps, TupF ι v [wl, rt, fl] ∧ ListF ι wl (v1 :: (jw (p :: ps) ++ [v2])) ∧ WordV ι v1 s_special b .none ∧ WordV ι v2 s_special e .none ∧ PtOk d ι p ∧ (∀ p ∈ ps, PtOk d ι p ∧ CwOk ι p) ∧ q ≤ ps.length + 1 ∧ ps.length ≤ q ∧
    RowV ι rt (.tuple ((p :: ps).map (·.row))) ∧ ListF ι fl ((p :: ps).map (·.e))
theorem jw_len {N : Nat} : ∀ {ps : List Pt}, (∀ p ∈ ps, p.pw.length + 1 ≤ N) → (jw ps).length ≤ ps.length * N
  | [], _ => Nat.zero_le _
  | p :: ps, h => by
    have e : ∀ qs : List Pt, (∀ q ∈ qs, q.pw.length + 1 ≤ N) → ((qs.map Pt.nx).flatMap Nextp.ws).length ≤ qs.length * N := by
      intro qs
      induction qs with
      | nil => intro _; exact Nat.zero_le _
      | cons q qs ih =>
        intro h
        have a := ih fun x hx => h x (.tail _ hx)
        have b := h q (.head _)
        simp only [List.map_cons, List.flatMap_cons, List.length_append, List.length_cons, Nat.succ_mul]
        walk_at "o"
    have a := e ps fun x hx => h x (.tail _ hx)
    have b := h p (.head _)
    simp only [jw, List.length_append, List.length_cons, Nat.succ_mul]
    walk_at "o"
theorem LA_le : ∀ {d : Nat}, d ≤ 2 → LA d ≤ 3428
  | 0, _ => by decide
  | 1, _ => by decide
  | 2, _ => by decide
theorem ListF.cast' {ι : Led} {v : Value} {a b : List Value} (h : ListF ι v a) (e : a = b) : ListF ι v b := e ▸ h
theorem listed {d q : Nat} (H : PatS d) (hd2 : d ≤ 2) {l : Addr} {μ ι : Led} {i : Int} {u tb te tq : Tok} {b e : Str} (hi : i = d) (hq : q ≤ 2) (hq1 : 1 ≤ q) (h : Brk l μ) :
    Spec (10 + 4 * d + 1) 994 [.ref l, .int i u, .str b tb, .str e te, .int (q : Int) tq] μ ι (fun r μ' ι' => LstB d q b e ι' r ∧ Brk l μ') := by
  subst hi
  refine' Spec.intro (k := 10 + 4 * d) (loc := [(s_least_many, .int (q : Int) tq), (s_end, .str e te), (s_begin, .str b tb), (s_deep, .int d u), (s_brook, .ref l)]) hd.z994 hd.z993 ?ho ?hob ?hco' ?hcd ?hbind ?hloc ?hco ?hgen ?hk ?hcell ?hb
  walk_at "M.fn"
  intro c ρ O
  have hS : sizeLine = 16777216 := sizeLine_eq
  have hLA : LA d ≤ 3428 := LA_le hd2
  refine W.asgSwap (names := [s_words, s_rows, s_found]) O ?_
  walk_at "rw"
  refine W.c_sign O (by walk_at "o") fun v1 ι1 s1 w1 => ?_
  walk_at "rw"
  refine W.list_ (by walk_at "M.sz") fun wl ι2 s2 hwl => ?_
  walk_at "rw"
  refine W.listP (μ₁ := μ) (by walk_at "M.sz") fun r o1 ho1 => ?_
  walk_at "rw"
  refine W.listP (μ₁ := μ) (by walk_at "M.sz") fun f o2 ho2 => ?_
  walk_at "rw"
  refine W.tup_ (by walk_at "M.sz") fun vt ι3 s3 hvt => ?_
  refine ⟨_, hvt, rfl, ?_⟩
  show c.W _ _ ((s_words, wl) :: (s_rows, .ref r) :: (s_found, .ref f) :: [(s_least_many, .int (q : Int) tq), (s_end, .str e te), (s_begin, .str b tb), (s_deep, .int d u), (s_brook, .ref l)]) (μ ++ (f, o2) :: (r, o1) :: ρ) ι3
  refine W.forRange (ρ := ρ) (fun i' m own ι' => ∃ wl ps μb of or, At s_words wl m ∧ At s_rows (.ref r) m ∧ At s_found (.ref f) m ∧ At s_brook (.ref l) m ∧ At s_deep (.int d u) m ∧ At s_end (.str e te) m ∧ own = μb ++ [(f, of), (r, or)] ∧ Brk l μb ∧
    ListF ι' wl (v1 :: jw ps) ∧ PObj or (ps.map (·.rv)) ∧ PObj of (ps.map (·.e)) ∧ (∀ p ∈ ps, PtOk d ι' p) ∧ (∀ p ∈ ps.drop 1, CwOk ι' p) ∧ ps.length = i' ∧ i' ≤ 3 ∧ Sub ι3 ι' ∧ True) O ?_
  · walk_at "rw"
    refine W.c_cup (many := 2) O h (by decide) (by decide) (by walk_at "o") fun g u1 μ1 ι4 hg s4 hB => ?_
    walk_at "rw"
    refine W.range (j := q + g) (by walk_at "o") fun vr ι5 s5 hr => ?_
    refine ⟨q + g, μ1 ++ [(f, o2), (r, o1)], by walk_at "o", hr, by simp, ⟨_, [], μ1, o2, o1, by walk_at "M.at", by walk_at "M.at", by walk_at "M.at", by walk_at "M.at", by walk_at "M.at", by walk_at "M.at", rfl, hB, hwl.mono (by walk_at "M.sub"), ho1, ho2, (fun _ h => by cases h), (fun _ h => by cases h), rfl, by walk_at "o", by walk_at "M.sub", trivial⟩, ?_, ?_⟩
    · intro i' t m' own ι' ρ' hi' j
      refine oEEEEEAAAA j ?_; clear j; intro wl' ps μb of or a1 a2 a3 a4 zz; refine oAAAAAAAAA zz ?_; clear zz; intro a5 a6 zo11 hB' hwl' hor hof hps hcs zz; refine oAAA zz ?_; clear zz; intro hln hi3 s6 _; obtain rfl := zo11
      rw [List.append_assoc]
      walk_at "rw"
      refine W.callS (μ := μb) (H rfl hB') O (by walk_at "o") fun rp μ2 ι7 s7 gp => ?_
      obtain ⟨gp, hB2⟩ := gp
      refine oEEEEEEEEA gp.ex fun pw rt il ws x us i0 x0 ht zz => ?_; refine oAAAAAAAAA zz ?_; clear zz; intro hws hrow rok hlen hil huo huh hur hun zz; refine oA zz ?_; clear zz; intro hus hpat
      have hjl : (jw ps).length ≤ ps.length * (8 * LA d + 22) := jw_len fun p hp => Nat.succ_le_succ (hps p hp).len
      have hjl2 : (jw ps).length ≤ 3 * (8 * 3428 + 22) := Nat.le_trans hjl (Nat.mul_le_mul (by walk_at "o") (by walk_at "o"))
      walk_at "rw"
      show ite _ _ _
      by_cases e0 : i' = 0
      · refine W.iteF (decide_eq_false (by walk_at "o")) ?_
        walk_at "rw"
        refine W.list_ (by walk_at "M.sz") fun sl ι8 s8 hsl => ?_
        walk_at "rw"
        refine W.cat_ (by walk_at "M.fact") (by walk_at "M.fact") (by simp; walk_at "o") fun wl1 ι9 s9 hwl1 => ?_
        walk_at "rw"
        refine W.titem (j := 0) (ht.mono (by walk_at "M.sub")) rfl ?_
        walk_at "rw"
        refine W.cat_ (by walk_at "M.fact") (hws.mono (by walk_at "M.sub")) (by simp ; walk_at "o") fun wl2 ι10 s10 hwl2 => ?_
        walk_at "rw"
        refine W.titem (j := 1) (ht.mono (by walk_at "M.sub")) rfl ?_
        walk_at "rw"
        rw [show μ2 ++ ([(f, of), (r, or)] ++ ρ') = (μ2 ++ [(f, of)]) ++ (r, or) :: ρ' by simp]
        refine W.append (μ₁ := μ2 ++ [(f, of)]) hor (by rw [List.length_map]; walk_at "o") fun or2 hor2 => ?_
        rw [List.append_assoc]
        walk_at "rw"
        refine W.c_whole O (by unfold EA; walk_at "o") (by unfold JA; walk_at "o") (ht.mono (by walk_at "M.sub")) (hil.mono (by walk_at "M.sub")) (huo.mono (by walk_at "M.sub")) huh hun hus (by walk_at "o") fun ev ι11 s11 hev => ?_
        walk_at "rw"
        refine W.append (μ₁ := μ2) (μ₂ := (r, or2) :: ρ') hof (by rw [List.length_map]; walk_at "o") fun of2 hof2 => ?_
        walk_at "rw"
        refine ⟨rfl, μ2 ++ [(f, of2), (r, or2)], by simp, wl2, ps ++ [⟨.none, ws, x, rt, ev⟩], μ2, of2, or2, by walk_at "M.at", by walk_at "M.at", by walk_at "M.at", by walk_at "M.at", by walk_at "M.at", by walk_at "M.at", rfl, hB2, ?_, by simpa using hor2, by simpa using hof2, ?_, ?_, by simp; walk_at "o", by walk_at "o", by walk_at "M.sub", trivial⟩
        · rw [jw_add]
          rw [if_pos (by walk_at "o")]
          exact (hwl2.mono (by walk_at "M.sub")).cast' (by simp)
        · intro p hp
          rcases List.mem_append.mp hp with hp | hp
          · exact (hps p hp).mono (by walk_at "M.sub")
          · rw [List.mem_singleton.mp hp]
            refine ⟨hpat.mono (by walk_at "M.sub"), rok, hlen, ?_, hrow.mono (by walk_at "M.sub")⟩
            rw [hur] at hev
            exact hev
        · intro p hp
          have : ps = [] := List.length_eq_zero_iff.mp (by walk_at "o")
          rw [this] at hp
          cases hp
      · refine W.iteT (decide_eq_true (by walk_at "o")) ?_
        walk_at "rw"
        refine W.c_sign O (by walk_at "o") fun cw ι6 s6' wcw => ?_
        walk_at "rw"
        refine W.list_ (by walk_at "M.sz") fun sl ι8 s8 hsl => ?_
        walk_at "rw"
        refine W.cat_ (by walk_at "M.fact") (by walk_at "M.fact") (by simp; walk_at "o") fun wl1 ι9 s9 hwl1 => ?_
        walk_at "rw"
        refine W.titem (j := 0) (ht.mono (by walk_at "M.sub")) rfl ?_
        walk_at "rw"
        refine W.cat_ (by walk_at "M.fact") (hws.mono (by walk_at "M.sub")) (by simp ; walk_at "o") fun wl2 ι10 s10 hwl2 => ?_
        walk_at "rw"
        refine W.titem (j := 1) (ht.mono (by walk_at "M.sub")) rfl ?_
        walk_at "rw"
        rw [show μ2 ++ ([(f, of), (r, or)] ++ ρ') = (μ2 ++ [(f, of)]) ++ (r, or) :: ρ' by simp]
        refine W.append (μ₁ := μ2 ++ [(f, of)]) hor (by rw [List.length_map]; walk_at "o") fun or2 hor2 => ?_
        rw [List.append_assoc]
        walk_at "rw"
        refine W.c_whole O (by unfold EA; walk_at "o") (by unfold JA; walk_at "o") (ht.mono (by walk_at "M.sub")) (hil.mono (by walk_at "M.sub")) (huo.mono (by walk_at "M.sub")) huh hun hus (by walk_at "o") fun ev ι11 s11 hev => ?_
        walk_at "rw"
        refine W.append (μ₁ := μ2) (μ₂ := (r, or2) :: ρ') hof (by rw [List.length_map]; walk_at "o") fun of2 hof2 => ?_
        walk_at "rw"
        refine ⟨rfl, μ2 ++ [(f, of2), (r, or2)], by simp, wl2, ps ++ [⟨cw, ws, x, rt, ev⟩], μ2, of2, or2, by walk_at "M.at", by walk_at "M.at", by walk_at "M.at", by walk_at "M.at", by walk_at "M.at", by walk_at "M.at", rfl, hB2, ?_, by simpa using hor2, by simpa using hof2, ?_, ?_, by simp; walk_at "o", by walk_at "o", by walk_at "M.sub", trivial⟩
        · rw [jw_add]
          rw [if_neg (by walk_at "o")]
          exact (hwl2.mono (by walk_at "M.sub")).cast' (by simp)
        · intro p hp
          rcases List.mem_append.mp hp with hp | hp
          · exact (hps p hp).mono (by walk_at "M.sub")
          · rw [List.mem_singleton.mp hp]
            refine ⟨hpat.mono (by walk_at "M.sub"), rok, hlen, ?_, hrow.mono (by walk_at "M.sub")⟩
            rw [hur] at hev
            exact hev
        · intro p hp
          rw [List.drop_append_of_le_length (by walk_at "o")] at hp
          rcases List.mem_append.mp hp with hp | hp
          · exact (hcs p hp).mono (by walk_at "M.sub")
          · rw [List.mem_singleton.mp hp]; exact wcw.mono (by walk_at "M.sub")
    · intro m' own ι' j
      refine oEEEEEAAAA j ?_; clear j; intro wl' ps μb of or a1 a2 a3 a4 zz; refine oAAAAAAAAA zz ?_; clear zz; intro a5 a6 zo11 hB' hwl' hor hof hps hcs zz; refine oAAA zz ?_; clear zz; intro hln hi3 s6 _; obtain rfl := zo11
      have hjl : (jw ps).length ≤ ps.length * (8 * LA d + 22) := jw_len fun p hp => Nat.succ_le_succ (hps p hp).len
      have hjl2 : (jw ps).length ≤ 3 * (8 * 3428 + 22) := Nat.le_trans hjl (Nat.mul_le_mul (by walk_at "o") (by walk_at "o"))
      rw [List.append_assoc]
      walk_at "rw"
      refine W.c_sign O (by walk_at "o") fun v2 ι6 s6' w2 => ?_
      walk_at "rw"
      refine W.list_ (by walk_at "M.sz") fun sl ι8 s8 hsl => ?_
      walk_at "rw"
      refine W.cat_ (by walk_at "M.fact") (by walk_at "M.fact") (by simp; walk_at "o") fun wl1 ι9 s9 hwl1 => ?_
      walk_at "rw"
      refine W.tupleOfM (a := r) (o := or) (xs := ps.map (·.rv)) (by simp) hor.lobj (by rw [List.length_map]; walk_at "o") fun rt ι10 s10 hrt => ?_
      walk_at "rw"
      refine W.freezeL (μ := μb) (l := f) (o := of) (ρ := (r, or) :: ρ) hof fun ι11 s11 hfl => ?_
      refine W.freezeL (μ := μb) (l := r) (o := or) hor fun ι12 s12 hrl => ?_
      refine W.tup_ (by walk_at "M.sz") fun res ι13 s13 hres => ?_
      match ps, hln, hps, hcs, hrt, hfl, hwl1 with
      | [], h0, _, _, _, _, _ => exact absurd h0 (by simp; walk_at "o")
      | p :: ps, hln, hps, hcs, hrt, hfl, hwl1 =>
        rw [List.length_cons] at hln
        refine Ends.ret (by walk_at "M.sub") ⟨⟨wl1, rt, .ref f, v1, v2, p, ps, by walk_at "M.fact", (hwl1.mono (by walk_at "M.sub")).cast' (by simp), by walk_at "M.fact", by walk_at "M.fact", (hps p (.head _)).mono (by walk_at "M.sub"), fun p' hp' => ⟨(hps p' (.tail _ hp')).mono (by walk_at "M.sub"), (hcs p' (by simpa using hp')).mono (by walk_at "M.sub")⟩, by walk_at "o", by walk_at "o", ?_, by walk_at "M.fact"⟩, hB'⟩
        exact RowV.tupF (hrt.mono (by walk_at "M.sub")) (rowvs fun p' hp' => ((hps p' hp').rowv).mono (by walk_at "M.sub"))
local macro_rules | `(tactic| walk_at "M.w") => `(tactic| ((with_reducible show Cx.W _ (eval (Expr.Slice _ _ _ _) _) _ _ _ _); refine W.sliceE ?_))
theorem first_in {ι : Led} {pw r z : List Value} (h : First fTok ι pw) : First (fun k t _ => !symTok k t) ι ((pw ++ r) ++ z) := by
  refine oEEEEEAA h ?_; clear h; intro v r' k t x zo5 a b; obtain rfl := zo5
  exact ⟨v, (r' ++ r) ++ z, k, t, x, rfl, a, by show (!symTok k t) = true; rw [(fTok_not b).1]; rfl⟩
theorem KA_s (d : Nat) : KA (d + 1) = KA d + 2 + 3 := by unfold KA; walk_at "o"
theorem JA_s (d : Nat) : JA (d + 1) = JA d + 4 + 2 := by unfold JA; walk_at "o"
theorem EA_s (d : Nat) : EA (d + 1) = EA d + 4 + 1 := by unfold EA; walk_at "o"
theorem AtomB.brac {d : Nat} {ι : Led} {v wl row nd : Value} {ws : List Value} {x : PyData} (ht : TupF ι v [wl, row, nd]) (hl : ListF ι wl ws) (hr : RowV ι row x) (ok : RowOk (JA d + 6) x) (hn : ws.length ≤ LA (d + 1)) (ra : RAtom (KA d + 2 + 3) (JA d + 4 + 2) ι ws x)
    (hf : First plainTok ι ws ∨ ∃ v r y, ws = v :: r ∧ WordV ι v s_special h_13 y ∧ First (fun k t _ => !symTok k t) ι r) (he : Exp (EA d + 4 + 1) (JA d + 4 + 2) ι nd x) : AtomB (d + 1) ι v := by
  have r1 : RAtom (KA (d + 1)) (JA (d + 1)) ι ws x := by rw [KA_s, JA_s]; exact ra
  exact ⟨wl, row, nd, ws, x, ht, hl, hr, by rw [JA_s]; exact ok, hn, r1, (part_atom (by unfold KA; walk_at "o") r1 hf).more (Nat.le_refl _) (by walk_at "o"), by rw [EA_s, JA_s]; exact he⟩
def AtomS (d : Nat) : Prop := ∀ {l : Addr} {μ ι : Led} {i : Int} {u : Tok}, i = (d : Int) → Brk l μ → Spec (8 + 4 * d) 1001 [.ref l, .int i u] μ ι (fun r μ' ι' => AtomB d ι' r ∧ Brk l μ')
theorem atomS {d : Nat} (H : PatS d) (hd2 : d ≤ 2) {l : Addr} {μ ι : Led} {u : Tok} {i : Int} (hi : i = ((d + 1 : Nat) : Int)) (h : Brk l μ) : Spec (10 + 4 * d + 1 + 1) 1001 [.ref l, .int i u] μ ι (fun r μ' ι' => AtomB (d + 1) ι' r ∧ Brk l μ') := by
  subst hi
  refine' Spec.intro (k := 10 + 4 * d + 1) (loc := [(s_deep, .int ((d + 1 : Nat) : Int) u), (s_brook, .ref l)]) hd.z1001 hd.z1000 ?ho ?hob ?hco' ?hcd ?hbind ?hloc ?hco ?hgen ?hk ?hcell ?hb
  walk_at "M.fn"
  intro c ρ O
  have hLA : LA d ≤ 3428 := LA_le hd2
  walk_at "ry"
  refine W.iteT (decide_eq_true (by walk_at "o")) ?_
  walk_at "ry"
  refine W.c_cup (many := 10) O h (by decide) (by decide) (by walk_at "o") fun g u1 μ1 ι1 hg s1 hB1 => ?_
  walk_at "ry"
  refine W.c_cup (many := 3) O hB1 (by decide) (by decide) (by walk_at "o") fun g' u2 μ2 ι2 hg' s2 hB2 => ?_
  refine W.itemAbc hg' fun n tn hn => ?_
  have hcase : g = 0 ∨ g = 1 ∨ g = 2 ∨ g = 3 ∨ g = 4 ∨ g = 5 ∨ g = 6 ∨ g = 7 ∨ g = 8 ∨ g = 9 := by walk_at "o"
  rcases hcase with rfl | rfl | rfl | rfl | rfl | rfl | rfl | rfl | rfl | rfl
  · walk_at "ry"
    exact Ends.ret (by walk_at "M.sub") ⟨AtomB.plain (by walk_at "M.fact") (by walk_at "M.fact") (by walk_at "M.rowv") (rowOk2 (D := 1) (by kernel_rfl!) (.str (abc_ok hn))) (by simp) (atom_var (by walk_at "M.word")) ⟨_, _, _, _, _, rfl, by walk_at "M.word", by kernel_rfl!⟩ (exp_var hn (by walk_at "M.fact")) (by decide) (by decide) (by decide), by assumption⟩
  · walk_at "ry"
    exact Ends.ret (by walk_at "M.sub") ⟨AtomB.plain (by walk_at "M.fact") (by walk_at "M.fact") (by walk_at "M.rowv") (rowOk2 (D := 1) (by kernel_rfl!) (.str (abc_ok hn))) (by simp) (atom_var (by walk_at "M.word")) ⟨_, _, _, _, _, rfl, by walk_at "M.word", by kernel_rfl!⟩ (exp_var hn (by walk_at "M.fact")) (by decide) (by decide) (by decide), by assumption⟩
  · walk_at "ry"
    refine W.c_cup (many := 12) O (by assumption) (by decide) (by decide) (by walk_at "o") fun g2 u2 μ3 ι3 hg2 s3 hB3 => ?_
    walk_at "ry"
    refine W.c_pos O (by walk_at "o") (by walk_at "o") fun r ι4 s4 hr => ?_
    refine oEEEEEEEEE hr ?_; clear hr; intro wl row il wd lt tt uu t2 u2' zz; refine oAAAAA zz ?_; clear zz; intro ht hl hw hrow hil hI
    walk_at "ry"
    refine W.titem (j := 0) ht rfl ?_
    walk_at "ry"
    refine W.titem (j := 1) ht rfl ?_
    walk_at "ry"
    refine W.titem (j := 2) ht rfl ?_
    walk_at "ry"
    refine W.item_ hil (by decide) (by decide) (x := lt) rfl ?_
    walk_at "ry"
    rename_i tres s5 ht5
    exact Ends.ret (by walk_at "M.sub") ⟨AtomB.plain ht5 (hl.mono s5) (hrow.mono s5) (litOk 1 _) (by simp) (atom_int (hw.mono s5)) ⟨_, _, _, _, _, rfl, hw.mono s5, by kernel_rfl!⟩ (exp_lit (hI.mono s5)) (by decide) (by decide) (by decide), hB3⟩
  · walk_at "ry"
    refine Ends.ret (by walk_at "M.sub") ⟨AtomB.plain (by walk_at "M.fact") (by walk_at "M.fact") (by walk_at "M.rowv") (rowOk1 (D := 1) (by kernel_rfl!)) (by simp) (atom_wild (by walk_at "M.word")) ⟨_, _, _, _, _, rfl, by walk_at "M.word", by kernel_rfl!⟩ (exp_node (row_PWild (by walk_at "M.fact")) (by walk_at "M.fact") (.inl rfl)) (by decide) (by decide) (by decide), by assumption⟩
  · walk_at "ry"
    refine Ends.ret (by walk_at "M.sub") ⟨AtomB.con (by walk_at "M.fact") (by walk_at "M.fact") (by walk_at "M.rowv") (rowOk3 (by kernel_rfl!) (by kernel_rfl!) .nilT) (by walk_at "M.word") (.inr ⟨_, _, rfl, by kernel_rfl!, by decide +kernel⟩) (by walk_at "M.fact"), by assumption⟩
  · walk_at "ry"
    refine Ends.ret (by walk_at "M.sub") ⟨AtomB.plain (by walk_at "M.fact") (by walk_at "M.fact") (by walk_at "M.rowv") (rowOk3 (D := 1) (by kernel_rfl!) (by kernel_rfl!) .int) (by simp) (atom_chr (by walk_at "M.word")) ⟨_, _, _, _, _, rfl, by walk_at "M.word", by kernel_rfl!⟩ (exp_lit (by walk_at "M.fact")) (by decide) (by decide) (by decide), by assumption⟩
  · walk_at "ry"
    refine W.c_cup (many := 3) O (by assumption) (by decide) (by decide) (by walk_at "o") fun g2 u2 μ3 ι3 hg2 s3 hB3 => ?_
    rcases lt3 hg2 with rfl | rfl | rfl
    · walk_at "ry"
      refine ⟨0, 1, _, _, rfl, rfl, fun sl ι5 s5 hsl => ?_⟩
      walk_at "ry"
      refine W.sliceT (by walk_at "M.fact") (by walk_at "M.fact") (by simp) (by decide) (by walk_at "M.sz") fun hv ι6 s6 hhv => ?_
      replace hhv := hhv.cast' (show _ = [_] from rfl)
      walk_at "ry"
      refine W.cat_ (by walk_at "M.fact") (by walk_at "M.fact") (by walk_at "M.sz") fun hv2 ι7 s7 hhv2 => ?_
      walk_at "ry"
      refine W.item_ (by walk_at "M.fact") (by decide) (by decide) rfl ?_
      walk_at "ry"
      refine W.item_ (by walk_at "M.fact") (by decide) (by decide) rfl ?_
      walk_at "ry"
      refine W.cat_ (by walk_at "M.fact") (by walk_at "M.fact") (by walk_at "M.sz") fun hv3 ι8 s8 hhv3 => ?_
      replace hhv3 := hhv3.cast' (show _ = [_, _, _] from rfl)
      walk_at "ry"
      exact Ends.ret (by walk_at "M.sub") ⟨AtomB.plain (by walk_at "M.fact") (by walk_at "M.fact") (by walk_at "M.rowv") (rowOk3 (D := 1) (by kernel_rfl!) (abc_ok hn) (rowOk2 (D := 0) (by kernel_rfl!) (.str (by kernel_rfl!)))) (by simp) (atom_as (K := 6) (J := 1) (by decide) (by walk_at "M.word") (by walk_at "M.word") (atom_var (by walk_at "M.word"))) ⟨_, _, _, _, _, rfl, by walk_at "M.word", by kernel_rfl!⟩ (exp_node (row_PAs (by walk_at "M.fact") (row_PVar (by walk_at "M.fact"))) (by walk_at "M.fact") (.inr (.inl rfl))) (by decide) (by decide) (by decide), by assumption⟩
    · walk_at "ry"
      refine ⟨1, 2, _, _, rfl, rfl, fun sl ι5 s5 hsl => ?_⟩
      walk_at "ry"
      refine W.sliceT (by walk_at "M.fact") (by walk_at "M.fact") (by simp) (by decide) (by walk_at "M.sz") fun hv ι6 s6 hhv => ?_
      replace hhv := hhv.cast' (show _ = [_] from rfl)
      walk_at "ry"
      refine W.item_ (by walk_at "M.fact") (by decide) (by decide) rfl ?_
      walk_at "ry"
      refine W.item_ (by walk_at "M.fact") (by decide) (by decide) rfl ?_
      walk_at "ry"
      refine W.cat_ (by walk_at "M.fact") (by walk_at "M.fact") (by walk_at "M.sz") fun hv3 ι8 s8 hhv3 => ?_
      replace hhv3 := hhv3.cast' (show _ = [_, _] from rfl)
      walk_at "ry"
      exact Ends.ret (by walk_at "M.sub") ⟨AtomB.plain (by walk_at "M.fact") (by walk_at "M.fact") (by walk_at "M.rowv") (rowOk2 (D := 1) (by kernel_rfl!) (rowOk2 (D := 0) (by kernel_rfl!) (.str (by kernel_rfl!)))) (by simp) (atom_lazy (K := 6) (J := 1) (by decide) (by walk_at "M.word") (atom_var (by walk_at "M.word"))) ⟨_, _, _, _, _, rfl, by walk_at "M.word", by kernel_rfl!⟩ (exp_node (row_PLazy (by walk_at "M.fact") (row_PVar (by walk_at "M.fact"))) (by walk_at "M.fact") (.inr (.inr (.inl rfl)))) (by decide) (by decide) (by decide), by assumption⟩
    · walk_at "ry"
      refine ⟨2, 3, _, _, rfl, rfl, fun sl ι5 s5 hsl => ?_⟩
      walk_at "ry"
      refine W.sliceT (by walk_at "M.fact") (by walk_at "M.fact") (by simp) (by decide) (by walk_at "M.sz") fun hv ι6 s6 hhv => ?_
      replace hhv := hhv.cast' (show _ = [_] from rfl)
      walk_at "ry"
      refine W.item_ (by walk_at "M.fact") (by decide) (by decide) rfl ?_
      walk_at "ry"
      refine W.item_ (by walk_at "M.fact") (by decide) (by decide) rfl ?_
      walk_at "ry"
      refine W.cat_ (by walk_at "M.fact") (by walk_at "M.fact") (by walk_at "M.sz") fun hv3 ι8 s8 hhv3 => ?_
      replace hhv3 := hhv3.cast' (show _ = [_, _] from rfl)
      walk_at "ry"
      exact Ends.ret (by walk_at "M.sub") ⟨AtomB.plain (by walk_at "M.fact") (by walk_at "M.fact") (by walk_at "M.rowv") (rowOk2 (D := 1) (by kernel_rfl!) (rowOk2 (D := 0) (by kernel_rfl!) (.str (by kernel_rfl!)))) (by simp) (atom_bang (K := 6) (J := 1) (by decide) (by walk_at "M.word") (atom_var (by walk_at "M.word"))) ⟨_, _, _, _, _, rfl, by walk_at "M.word", by kernel_rfl!⟩ (exp_node (row_PBang (by walk_at "M.fact") (row_PVar (by walk_at "M.fact"))) (by walk_at "M.fact") (.inr (.inr (.inr rfl)))) (by decide) (by decide) (by decide), by assumption⟩
  · walk_at "ry"
    refine W.asgTup (es := [(s_words, _), (s_rows, _), (s_found, _)]) O rfl ?_
    walk_at "ry"
    refine W.callS (listed (q := 2) H hd2 (by walk_at "o") (by decide) (by decide) hB2) O (by walk_at "o") fun rp μ3 ι3 s3 gp => ?_
    obtain ⟨gp, hB3⟩ := gp
    refine oEEEEEEEAA gp.ex fun wl rt fl v1 v2 p ps ht hwl zz => ?_; refine oAAAAAAA zz ?_; clear zz; intro w1 w2 hp hps hq1 hq2 hrt hfl
    refine ⟨_, ht, rfl, ?_⟩
    show c.W _ _ ((s_found, fl) :: (s_rows, rt) :: (s_words, wl) :: _) _ _
    walk_at "ry"
    have hjl : (jw (p :: ps)).length ≤ (p :: ps).length * (8 * LA d + 22) := jw_len fun p' hp' => Nat.succ_le_succ (by rcases List.mem_cons.mp hp' with rfl | z; exact hp.len; exact (hps p' z).1.len)
    have hjl2 : (jw (p :: ps)).length ≤ 3 * (8 * LA d + 22) := Nat.le_trans hjl (Nat.mul_le_mul (by simp; walk_at "o") (Nat.le_refl _))
    have hall : ∀ p' ∈ p :: ps, PtOk d ι3 p' := fun p' hp' => by rcases List.mem_cons.mp hp' with rfl | z; exact hp; exact (hps p' z).1
    have hsz : (p :: ps).length ≤ sizeLine := by rw [sizeLine_eq]; simp; walk_at "o"
    have hmr : mRow p.row (ps.map Pt.nx) = (p :: ps).map (·.row) := by simp [mRow]
    have hokr : RowOk (JA d + 4 + 1) (.tuple ((p :: ps).map (·.row))) := .tuple fun x hx => by
      refine oEA (List.mem_map.mp hx) fun p' hp' zo2 => ?_; obtain rfl := zo2
      exact (hall p' hp').ok
    have hnx : ∀ t ∈ ps.map Pt.nx, (∃ y, WordV ι3 t.cw s_special h_5 y) ∧ RPat (KA d + 2) (JA d + 4) ι3 t.pw t.row := fun t hx => by
      refine oEA (List.mem_map.mp hx) fun p' hp' zo2 => ?_; obtain rfl := zo2
      exact ⟨⟨_, (hps p' hp').2⟩, (hps p' hp').1.pat⟩
    have ra0 := atom_brac (K := KA d + 2) (J := JA d + 4) (ts := ps.map Pt.nx) (by unfold KA; walk_at "o") w1 w2 hp.pat hnx (by simp; walk_at "o")
    have ra : RAtom (KA d + 2 + 3) (JA d + 4 + 2) ι3 (v1 :: (jw (p :: ps) ++ [v2])) (.tuple [.str s_ptuple, .tuple ((p :: ps).map (·.row))]) := by
      match ps, hmr, hq1, ra0 with
      | [], _, h0, _ => exact absurd h0 (by simp)
      | q :: ps, hmr, _, ra0 => rw [← hmr]; exact ra0
    have ex := exp_tuple (K := EA d + 4) (J := JA d + 4) (us := (p :: ps).map fun p => (p.e, p.row)) (by unfold EA; walk_at "o") ‹InstF _ _ 398 _› ((hfl.mono (by walk_at "M.sub")).cast' (by simp)) (fun x hx => by refine oEA (List.mem_map.mp hx) fun p' hp' zo2 => ?_; obtain rfl := zo2; exact (hall p' hp').exp.mono (by walk_at "M.sub")) (by rw [List.length_map]; exact hsz)
    rw [List.map_map] at ex
    refine Ends.ret (by walk_at "M.sub") ⟨AtomB.brac (by walk_at "M.fact") (by walk_at "M.fact") (by walk_at "M.rowv") (rowOk2 (D := JA d + 5) (by kernel_rfl!) hokr) (by simp only [LA, List.length_cons, List.length_append, List.length_nil]; walk_at "o") (ra.mono (by walk_at "M.sub")) (.inr ⟨_, _, _, rfl, w1.mono (by walk_at "M.sub"), (first_in hp.pat.first).mono (by walk_at "M.sub")⟩) (ex.mono (by walk_at "M.sub")), hB3⟩
  · walk_at "ry"
    refine W.asgTup (es := [(s_words, _), (s_rows, _), (s_found, _)]) O rfl ?_
    walk_at "ry"
    refine W.callS (listed (q := 1) H hd2 (by walk_at "o") (by decide) (by decide) hB2) O (by walk_at "o") fun rp μ3 ι3 s3 gp => ?_
    obtain ⟨gp, hB3⟩ := gp
    refine oEEEEEEEAA gp.ex fun wl rt fl v1 v2 p ps ht hwl zz => ?_; refine oAAAAAAA zz ?_; clear zz; intro w1 w2 hp hps hq1 hq2 hrt hfl
    refine ⟨_, ht, rfl, ?_⟩
    show c.W _ _ ((s_found, fl) :: (s_rows, rt) :: (s_words, wl) :: _) _ _
    walk_at "ry"
    have hjl : (jw (p :: ps)).length ≤ (p :: ps).length * (8 * LA d + 22) := jw_len fun p' hp' => Nat.succ_le_succ (by rcases List.mem_cons.mp hp' with rfl | z; exact hp.len; exact (hps p' z).1.len)
    have hjl2 : (jw (p :: ps)).length ≤ 3 * (8 * LA d + 22) := Nat.le_trans hjl (Nat.mul_le_mul (by simp; walk_at "o") (Nat.le_refl _))
    have hall : ∀ p' ∈ p :: ps, PtOk d ι3 p' := fun p' hp' => by rcases List.mem_cons.mp hp' with rfl | z; exact hp; exact (hps p' z).1
    have hsz : (p :: ps).length ≤ sizeLine := by rw [sizeLine_eq]; simp; walk_at "o"
    have hmr : mRow p.row (ps.map Pt.nx) = (p :: ps).map (·.row) := by simp [mRow]
    have hokr : RowOk (JA d + 4 + 1) (.tuple ((p :: ps).map (·.row))) := .tuple fun x hx => by
      refine oEA (List.mem_map.mp hx) fun p' hp' zo2 => ?_; obtain rfl := zo2
      exact (hall p' hp').ok
    have hnx : ∀ t ∈ ps.map Pt.nx, (∃ y, WordV ι3 t.cw s_special h_5 y) ∧ RPat (KA d + 2) (JA d + 4) ι3 t.pw t.row := fun t hx => by
      refine oEA (List.mem_map.mp hx) fun p' hp' zo2 => ?_; obtain rfl := zo2
      exact ⟨⟨_, (hps p' hp').2⟩, (hps p' hp').1.pat⟩
    have ra0 := atom_list (K := KA d + 2) (J := JA d + 4) (ts := ps.map Pt.nx) (by unfold KA; walk_at "o") w1 w2 hp.pat hnx (by simp; walk_at "o")
    have ra : RAtom (KA d + 2 + 3) (JA d + 4 + 2) ι3 (v1 :: (jw (p :: ps) ++ [v2])) (.tuple [.str s_plist, .tuple ((p :: ps).map (·.row))]) := by
      rw [hmr] at ra0
      exact ra0
    have ex := exp_list (K := EA d + 4) (J := JA d + 4) (us := (p :: ps).map fun p => (p.e, p.row)) (by unfold EA; walk_at "o") ‹InstF _ _ 425 _› ((hfl.mono (by walk_at "M.sub")).cast' (by simp)) (fun x hx => by refine oEA (List.mem_map.mp hx) fun p' hp' zo2 => ?_; obtain rfl := zo2; exact (hall p' hp').exp.mono (by walk_at "M.sub")) (by rw [List.length_map]; exact hsz)
    rw [List.map_map] at ex
    refine Ends.ret (by walk_at "M.sub") ⟨AtomB.brac (by walk_at "M.fact") (by walk_at "M.fact") (by walk_at "M.rowv") (rowOk2 (D := JA d + 5) (by kernel_rfl!) hokr) (by simp only [LA, List.length_cons, List.length_append, List.length_nil]; walk_at "o") (ra.mono (by walk_at "M.sub")) (.inl ⟨_, _, _, _, _, rfl, w1.mono (by walk_at "M.sub"), by kernel_rfl!⟩) (ex.mono (by walk_at "M.sub")), hB3⟩
  · walk_at "ry"
    refine W.callS (H (by walk_at "o") hB2) O (by walk_at "o") fun rp μ3 ι3' s3' gp => ?_
    obtain ⟨gp, hB3⟩ := gp
    refine oEEEEEEEEA gp.ex fun pw rt il ws x us i0 x0 ht zz => ?_; refine oAAAAAAAAA zz ?_; clear zz; intro hws hrow rok hlen hil huo huh hur hun zz; refine oA zz ?_; clear zz; intro hus hpat
    walk_at "ry"
    refine W.c_sign O (by walk_at "o") fun v1 ι3 s3 w1 => ?_
    walk_at "ry"
    refine W.titem (j := 0) (ht.mono (by walk_at "M.sub")) rfl ?_
    walk_at "ry"
    refine W.cat_ (by walk_at "M.fact") (hws.mono (by walk_at "M.sub")) (by rw [sizeLine_eq]; simp; walk_at "o") fun wl2 ι10 s10 hwl2 => ?_
    walk_at "ry"
    refine W.c_sign O (by walk_at "o") fun v2 ι4 s4 w2 => ?_
    walk_at "ry"
    refine W.cat_ (by walk_at "M.fact") (by walk_at "M.fact") (by rw [sizeLine_eq]; simp; walk_at "o") fun wl3 ι11 s11 hwl3 => ?_
    walk_at "ry"
    refine W.titem (j := 1) (ht.mono (by walk_at "M.sub")) rfl ?_
    walk_at "ry"
    refine W.c_whole O (by unfold EA; walk_at "o") (by unfold JA; walk_at "o") (ht.mono (by walk_at "M.sub")) (hil.mono (by walk_at "M.sub")) (huo.mono (by walk_at "M.sub")) huh hun hus (by walk_at "o") fun ev ι12 s12 hev => ?_
    walk_at "ry"
    have ra := atom_brac (K := KA d + 2) (J := JA d + 4) (ts := []) (by unfold KA; walk_at "o") (w1.mono (by walk_at "M.sub") : WordV ι12 _ _ _ _) (w2.mono (by walk_at "M.sub")) (hpat.mono (by walk_at "M.sub")) (fun _ h => by cases h) (by simp)
    have ex := (exp_paren (K := EA d + 4) (J := JA d + 4) (x := x) (by unfold EA; walk_at "o") ‹InstF _ _ 452 _› ((hur ▸ hev : Exp _ _ _ _ _).mono (by walk_at "M.sub"))).more (K' := EA d + 4 + 1) (J' := JA d + 4 + 2) (Nat.le_refl _) (by walk_at "o")
    refine Ends.ret (by walk_at "M.sub") ⟨AtomB.brac (by walk_at "M.fact") ((hwl3.mono (by walk_at "M.sub")).cast' (by simp)) (.tupF (by walk_at "M.fact") (.cons (.str _ _) (.cons (hrow.mono (by walk_at "M.sub")) .nil))) ((rowOk2 (by kernel_rfl!) rok).more (by walk_at "o")) (by simp [LA]; walk_at "o") (ra.mono (by walk_at "M.sub")) (.inr ⟨_, _, _, rfl, w1.mono (by walk_at "M.sub"), (first_in hpat.first).mono (by walk_at "M.sub")⟩) (ex.mono (by walk_at "M.sub")), hB3⟩
section
variable {c : Cx} {sc : Scope} {m : Lc} {μ ι ρ : Led} {k : Nat}
theorem W.ifP (P : Lc → Led → Led → Prop) {Q : Po Flow} {pos : Pos} {e : Expr} {b o rest : List Stmt}
    (h : c.W (isTrue e (c.env sc) (eval e (c.env sc))) (fun t m μ ι => if t then c.W (execs b (c.env sc)) (fun f m μ ι => f = .next ∧ P m μ ι) m μ ι else c.W (execs o (c.env sc)) (fun f m μ ι => f = .next ∧ P m μ ι) m μ ι) m μ ι)
    (q : ∀ m μ ι, P m μ ι → c.W (execs rest (c.env sc)) Q m μ ι) : c.W (execs (.If e b o pos :: rest) (c.env sc)) Q m μ ι := by
  refine W.if_ (W.mono h fun t m μ ι z => ?_)
  cases t
  · exact W.mono (show c.W (execs o (c.env sc)) (fun f m μ ι => f = .next ∧ P m μ ι) m μ ι from z) fun f m μ ι z => by obtain ⟨rfl, p⟩ := z; exact q m μ ι p
  · exact W.mono (show c.W (execs b (c.env sc)) (fun f m μ ι => f = .next ∧ P m μ ι) m μ ι from z) fun f m μ ι z => by obtain ⟨rfl, p⟩ := z; exact q m μ ι p
end
theorem Spec.to {k k' : Nat} {f : Addr} {vs : List Value} {μ ι : Led} {R : Value → Led → Led → Prop} (h : Spec k f vs μ ι R) (e : k = k') : Spec k' f vs μ ι R := e ▸ h
def PartS (d : Nat) : Prop := ∀ {l : Addr} {μ ι : Led} {i : Int} {u : Tok}, i = (d : Int) → Brk l μ → Spec (8 + 4 * d + 1) 1008 [.ref l, .int i u] μ ι (fun r μ' ι' => PartB d ι' r ∧ Brk l μ')
theorem LA_le3 : ∀ {d : Nat}, d ≤ 3 → LA d ≤ 82340
  | 0, _ => by decide
  | 1, _ => by decide
  | 2, _ => by decide
  | 3, _ => by decide
structure ArgOk (d : Nat) (ι : Led) (p : Pt) : Prop where
  atom : RAtom (KA d) (JA d) ι p.pw p.row
  ok : RowOk (JA d) p.row
  len : p.pw.length ≤ LA d
  exp : Exp (EA d) (JA d) ι p.e p.row
  rowv : RowV ι p.rv p.row
theorem ArgOk.mono {d : Nat} {ι ι' : Led} {p : Pt} (h : ArgOk d ι p) (s : Sub ι ι') : ArgOk d ι' p := ⟨h.atom.mono s, h.ok, h.len, h.exp.mono s, h.rowv.mono s⟩
theorem arg_len {N : Nat} : ∀ {ps : List Pt}, (∀ p ∈ ps, p.pw.length ≤ N) → (ps.flatMap (·.pw)).length ≤ ps.length * N
  | [], _ => Nat.zero_le _
  | p :: ps, h => by
    have a := arg_len fun q hq => h q (.tail _ hq)
    have b := h p (.head _)
    simp only [List.flatMap_cons, List.length_append, List.length_cons, Nat.succ_mul]
    walk_at "o"
theorem AtomB.arg {d : Nat} {ι : Led} {v : Value} (h : AtomB d ι v) : ∃ wl p, TupF ι v [wl, p.rv, p.e] ∧ ListF ι wl p.pw ∧ ArgOk d ι p ∧ RPart (KA d + 1) (JA d + 2) ι p.pw p.row := by
  refine oEEEEEAAAA h.ex fun wl row nd ws x a b r ok zz => ?_; refine oAAA zz ?_; clear zz; intro n ra rp e
  exact ⟨wl, ⟨.none, ws, x, row, nd⟩, a, b, ⟨ra, ok, n, e, r⟩, rp⟩
theorem partS {d : Nat} (H : AtomS d) (hd3 : d ≤ 3) : PartS d := by
  intro l μ ι i u hi h
  subst hi
  refine' Spec.intro (k := 8 + 4 * d) (loc := [(s_deep, .int (d : Int) u), (s_brook, .ref l)]) hd.z1008 hd.z1007 ?ho ?hob ?hco' ?hcd ?hbind ?hloc ?hco ?hgen ?hk ?hcell ?hb
  walk_at "M.fn"
  intro c ρ O
  have hLA : LA d ≤ 82340 := LA_le3 hd3
  have hL3 := LA_ge d
  have hS : sizeLine = 16777216 := sizeLine_eq
  walk_at "ry"
  refine W.c_cup (many := 4) O h (by decide) (by decide) (by walk_at "o") fun g u1 μ1 ι1 hg s1 hB1 => ?_
  rcases lt4 hg with rfl | rfl | rfl | rfl
  · walk_at "ry"
    refine W.c_cup (many := 12) O hB1 (by decide) (by decide) (by walk_at "o") fun g2 u2 μ3 ι3 hg2 s3 hB3 => ?_
    walk_at "ry"
    refine W.c_neg (n := g2 + 1) O (by walk_at "o") (by walk_at "o") (by walk_at "o") (by walk_at "o") fun r ι4 s4 hr => ?_
    refine oEEEEEEEEE hr ?_; clear hr; intro wl row il w w' lt o t uu zz; refine oEEEAAAAAA zz ?_; clear zz; intro t1 t2 u2' ht hl hw' hw hrow hil zz; refine oA zz ?_; clear zz; intro hI1 hI2
    exact Ends.ret (by walk_at "M.sub") ⟨⟨wl, row, il, _, _, _, ht, hl, hrow, (litOk 1 _).more (by unfold JA; walk_at "o"), by simp; walk_at "o", hil, by simp, .inr ⟨_, _, _, _, _, _, _, _, rfl, hI1, hI2, rfl⟩, (part_neg hw' hw).more (by unfold KA; walk_at "o") (by unfold JA; walk_at "o")⟩, hB3⟩
  · walk_at "ry"
    refine W.asgSwap (names := [s_words, s_name]) O ?_
    walk_at "ry"
    refine ⟨_, by assumption, rfl, ?_⟩
    show c.W _ _ ((s_words, _) :: (s_name, _) :: _) _ _
    refine W.ifP (fun m' μ' ι' => ∃ wl nt cs n μb, At s_words wl m' ∧ At s_name (.str n nt) m' ∧ At s_brook (.ref l) m' ∧ At s_deep (.int (d : Int) u) m' ∧ ListF ι' wl cs ∧ ConSeg ι' cs n ∧ PyData.strOk n = true ∧ cs.length ≤ 3 ∧ μ' = μb ++ ρ ∧ Brk l μb ∧ Sub ι ι') ?_ ?_
    · walk_at "ry"
      refine W.c_cup (many := 3) O hB1 (by decide) (by decide) (by walk_at "o") fun g2 u2 μ3 ι3 hg2 s3 hB3 => ?_
      rcases lt3 hg2 with rfl | rfl | rfl
      · walk_at "ry"
        refine W.asgSwap (names := [s_words, s_name]) O ?_
        walk_at "ry"
        refine W.c_sign O (by walk_at "o") fun v1 ι4 s4 w1 => ?_
        walk_at "ry"
        refine W.c_sign O (by walk_at "o") fun v2 ι5 s5 w2 => ?_
        walk_at "ry"
        refine ⟨_, by assumption, rfl, ?_⟩
        show c.W _ _ ((s_words, _) :: (s_name, _) :: _) _ _
        walk_at "ry"
        refine ⟨rfl, _, _, _, _, μ3, by walk_at "M.at", by walk_at "M.at", by walk_at "M.at", by walk_at "M.at", by walk_at "M.fact", .sym (by walk_at "M.fact") (by walk_at "M.word") (by walk_at "M.fact") (.inl ⟨rfl, rfl⟩), by kernel_rfl!, by simp, rfl, hB3, by walk_at "M.sub"⟩
      · walk_at "ry"
        refine ⟨rfl, _, _, _, _, μ3, by walk_at "M.at", by walk_at "M.at", by walk_at "M.at", by walk_at "M.at", by walk_at "M.fact", .con (by walk_at "M.word") (.inl ⟨rfl, rfl⟩), by kernel_rfl!, by simp, rfl, hB3, by walk_at "M.sub"⟩
      · walk_at "ry"
        refine ⟨rfl, _, _, _, _, μ3, by walk_at "M.at", by walk_at "M.at", by walk_at "M.at", by walk_at "M.at", by walk_at "M.fact", .con (by walk_at "M.word") (.inl ⟨rfl, rfl⟩), by kernel_rfl!, by simp, rfl, hB3, by walk_at "M.sub"⟩
    · intro m' μ' ι' P
      refine oEEEEEAAAA P ?_; clear P; intro wl nt cs n μb a1 a2 a3 a4 zz; refine oAAAAAA zz ?_; clear zz; intro hwl hcs hn hc3 zo13 hB s'; obtain rfl := zo13
      refine W.asgSwap (names := [s_rows, s_node]) O ?_
      walk_at "rw"
      refine W.listP (μ₁ := μb) (by walk_at "M.sz") fun r o1 ho1 => ?_
      walk_at "ry"
      rename_i nd ι5 s5 Ind tv ι6 s6 htv
      refine ⟨_, by assumption, rfl, ?_⟩
      show c.W _ _ ((s_rows, _) :: (s_node, _) :: _) _ _
      refine W.forRange (ρ := ρ) (fun i' m own ι' => ∃ (wl nv : Value) (ps : List Pt) (μb : Led) (or : Obj), At s_words wl m ∧ At s_rows (.ref r) m ∧ At s_node nv m ∧ At s_brook (.ref l) m ∧ At s_deep (.int (d : Int) u) m ∧ At s_name (.str n nt) m ∧ own = μb ++ [(r, or)] ∧ Brk l μb ∧
        ListF ι' wl (cs ++ ps.flatMap (·.pw)) ∧ PObj or (ps.map (·.rv)) ∧ (∀ p ∈ ps, ArgOk d ι' p) ∧ AppN (EA d) (JA d) ι' nv n (ps.map fun p => (p.e, p.row)) ∧ ps.length = i' ∧ i' ≤ 2 ∧ Sub ι6 ι' ∧ True) O ?_
      walk_at "rw"
      refine W.c_cup (many := 3) O hB (by decide) (by decide) (by walk_at "o") fun g3 u3 μ7 ι7 hg3 s7 hB7 => ?_
      walk_at "rw"
      refine W.range (j := g3) rfl fun vr ι8 s8 hr => ?_
      refine ⟨g3, μ7 ++ [(r, o1)], by walk_at "o", hr, by simp, ⟨_, _, [], μ7, o1, by walk_at "M.at", by walk_at "M.at", by walk_at "M.at", by walk_at "M.at", by walk_at "M.at", by walk_at "M.at", rfl, hB7, (hwl.mono (by walk_at "M.sub")).cast' (by simp), ho1, (fun _ h => by cases h), .con (by walk_at "M.fact"), rfl, by walk_at "o", by walk_at "M.sub", trivial⟩, ?_, ?_⟩
      · intro i' t m' own ι' ρ' hi' j
        refine oEEEEEAAAA j ?_; clear j; intro wl' nv ps μb or a1 a2 a3 a4 zz; refine oAAAAAAAAA zz ?_; clear zz; intro a5 a6 zo11 hB' hwl' hor hps happ hln zz; refine oAA zz ?_; clear zz; intro hi3 s9 _; obtain rfl := zo11
        have hjl : (ps.flatMap (·.pw)).length ≤ ps.length * LA d := arg_len fun p hp => (hps p hp).len
        have hjl2 : (ps.flatMap (·.pw)).length ≤ 2 * 82340 := Nat.le_trans hjl (Nat.mul_le_mul (by walk_at "o") (by walk_at "o"))
        rw [List.append_assoc]
        walk_at "ry"
        refine W.callS (μ := μb) (H rfl hB') O (by walk_at "o") fun rp μ10 ι10 s10 gp => ?_
        obtain ⟨gp, hB10⟩ := gp
        refine oEEAAA gp.arg fun wlp p htp hlp hap hpp => ?_
        have hpl := hap.len
        walk_at "ry"
        refine W.titem (j := 0) (htp.mono (by walk_at "M.sub")) rfl ?_
        walk_at "ry"
        refine W.cat_ (by walk_at "M.fact") (hlp.mono (by walk_at "M.sub")) (by simp only [List.length_append]; walk_at "o") fun wl2 ι11 s11 hwl2 => ?_
        walk_at "ry"
        refine W.titem (j := 1) (htp.mono (by walk_at "M.sub")) rfl ?_
        walk_at "ry"
        refine W.append (μ₁ := μ10) (μ₂ := ρ') hor (by rw [List.length_map]; walk_at "o") fun or2 hor2 => ?_
        walk_at "ry"
        refine W.titem (j := 2) (htp.mono (by walk_at "M.sub")) rfl ?_
        walk_at "ry"
        refine ⟨rfl, μ10 ++ [(r, or2)], by simp, wl2, _, ps ++ [p], μ10, or2, by walk_at "M.at", by walk_at "M.at", by walk_at "M.at", by walk_at "M.at", by walk_at "M.at", by walk_at "M.at", rfl, hB10, ?_, by simpa using hor2, ?_, ?_, by simp; walk_at "o", by walk_at "o", by walk_at "M.sub", trivial⟩
        · exact (hwl2.mono (by walk_at "M.sub")).cast' (by simp)
        · intro q hq
          rcases List.mem_append.mp hq with hq | hq
          · exact (hps q hq).mono (by walk_at "M.sub")
          · rw [List.mem_singleton.mp hq]; exact hap.mono (by walk_at "M.sub")
        · rw [List.map_append]
          exact .app (by walk_at "M.fact") (happ.mono (by walk_at "M.sub")) (hap.exp.mono (by walk_at "M.sub"))
      · intro m' own ι' j
        refine oEEEEEAAAA j ?_; clear j; intro wl' nv ps μb or a1 a2 a3 a4 zz; refine oAAAAAAAAA zz ?_; clear zz; intro a5 a6 zo11 hB' hwl' hor hps happ hln zz; refine oAA zz ?_; clear zz; intro hi3 s9 _; obtain rfl := zo11
        have hjl : (ps.flatMap (·.pw)).length ≤ ps.length * LA d := arg_len fun p hp => (hps p hp).len
        have hjl2 : (ps.flatMap (·.pw)).length ≤ 2 * LA d := Nat.le_trans hjl (Nat.mul_le_mul (by walk_at "o") (Nat.le_refl _))
        rw [List.append_assoc]
        walk_at "ry"
        refine W.tupleOfM (a := r) (o := or) (xs := ps.map (·.rv)) (by simp) hor.lobj (by rw [List.length_map]; walk_at "o") fun rt ι10 s10 hrt => ?_
        walk_at "rw"
        refine W.freezeL (μ := μb) (l := r) (o := or) hor fun ι12 s12 hrl => ?_
        walk_at "ry"
        have hrows : RowV ι10 rt (.tuple (ps.map (·.row))) := RowV.tupF hrt (rowvs fun p' hp' => ((hps p' hp').rowv).mono (by walk_at "M.sub"))
        have hx := exp_app (K := EA d) (J := JA d) (by unfold EA; walk_at "o") happ (by simp; walk_at "o")
        rw [List.map_map] at hx
        have hp := part_con (K := KA d) (J := JA d) (as := ps.map fun p => (p.pw, p.row)) (by unfold KA; walk_at "o") (ConSeg.mono (by walk_at "M.sub") hcs : ConSeg ι' cs n) (fun a ha => by refine oEA (List.mem_map.mp ha) fun p' hp' zo2 => ?_; obtain rfl := zo2; exact (hps p' hp').atom) (by simp; walk_at "o")
        have ef : ((ps.map fun p => (p.pw, p.row)).flatMap (·.1)) = ps.flatMap (·.pw) := by rw [List.flatMap_map]
        rw [ef, List.map_map] at hp
        refine Ends.ret (by walk_at "M.sub") ⟨⟨_, _, _, _, _, [nv], by walk_at "M.fact", hwl'.mono (by walk_at "M.sub"), .tupF (by walk_at "M.fact") (.cons (.str _ _) (.cons (.str _ _) (.cons (hrows.mono (by walk_at "M.sub")) .nil))), ?_, ?_, by walk_at "M.fact", by simp, .inl ⟨nv, rfl, hx.mono (by walk_at "M.sub")⟩, hp.mono (by walk_at "M.sub")⟩, hB'⟩
        · exact rowOk3 (D := JA d + 1) (by kernel_rfl!) hn (.tuple fun x hx => by refine oEA (List.mem_map.mp hx) fun p' hp' zo2 => ?_; obtain rfl := zo2; exact (hps p' hp').ok)
        · simp only [List.length_append]; walk_at "o"
  · walk_at "ry"
    refine W.callS (H rfl hB1) O (by walk_at "o") fun rp μ3 ι3 s3 gp => ?_
    obtain ⟨gp, hB3⟩ := gp
    refine oEEAAA gp.arg fun wl p ht hl ha hp => ?_
    walk_at "ry"
    refine W.titem (j := 0) (ht.mono (by walk_at "M.sub")) rfl ?_
    walk_at "ry"
    refine W.titem (j := 1) (ht.mono (by walk_at "M.sub")) rfl ?_
    walk_at "ry"
    refine W.titem (j := 2) (ht.mono (by walk_at "M.sub")) rfl ?_
    walk_at "ry"
    exact Ends.ret (by walk_at "M.sub") ⟨⟨_, _, _, _, _, [_], by walk_at "M.fact", hl.mono (by walk_at "M.sub"), ha.rowv.mono (by walk_at "M.sub"), ha.ok.more (by walk_at "o"), by have := ha.len; walk_at "o", by walk_at "M.fact", by simp, .inl ⟨_, rfl, (ha.exp.mono (by walk_at "M.sub")).more (by walk_at "o") (by walk_at "o")⟩, hp.mono (by walk_at "M.sub")⟩, hB3⟩
  · walk_at "ry"
    refine W.callS (H rfl hB1) O (by walk_at "o") fun rp μ3 ι3 s3 gp => ?_
    obtain ⟨gp, hB3⟩ := gp
    refine oEEAAA gp.arg fun wl p ht hl ha hp => ?_
    walk_at "ry"
    refine W.titem (j := 0) (ht.mono (by walk_at "M.sub")) rfl ?_
    walk_at "ry"
    refine W.titem (j := 1) (ht.mono (by walk_at "M.sub")) rfl ?_
    walk_at "ry"
    refine W.titem (j := 2) (ht.mono (by walk_at "M.sub")) rfl ?_
    walk_at "ry"
    exact Ends.ret (by walk_at "M.sub") ⟨⟨_, _, _, _, _, [_], by walk_at "M.fact", hl.mono (by walk_at "M.sub"), ha.rowv.mono (by walk_at "M.sub"), ha.ok.more (by walk_at "o"), by have := ha.len; walk_at "o", by walk_at "M.fact", by simp, .inl ⟨_, rfl, (ha.exp.mono (by walk_at "M.sub")).more (by walk_at "o") (by walk_at "o")⟩, hp.mono (by walk_at "M.sub")⟩, hB3⟩
theorem UnOk.app {K J : Nat} {ι : Led} {o p : Un} (ho : OpI ι o.1 o.2) (hp : PartI K J ι p.1 p.2) : ∀ {b : Bool} {us : List Un}, UnOk K J ι b us → (us.length + b.toNat) % 2 = 1 → UnOk K J ι b (us ++ [o, p])
  | false, [], _, e => absurd e (by decide)
  | true, [], _, _ => ⟨ho, hp, trivial⟩
  | false, u :: us, h, e => ⟨h.1, UnOk.app ho hp h.2 (by simp only [List.length_cons, Bool.toNat_false, Bool.toNat_true] at e ⊢; walk_at "o")⟩
  | true, u :: us, h, e => ⟨h.1, UnOk.app ho hp h.2 (by simp only [List.length_cons, Bool.toNat_false, Bool.toNat_true] at e ⊢; walk_at "o")⟩
theorem LA_mono : ∀ {d e : Nat}, d ≤ e → LA d ≤ LA e := by
  intro d e h
  induction h with
  | refl => exact Nat.le_refl _
  | step h ih => exact Nat.le_trans ih (by rw [LA]; walk_at "o")
theorem tails_len {N : Nat} : ∀ {ts : List Tail}, (∀ t ∈ ts, t.ws.length ≤ N) → (ts.flatMap Tail.ws).length ≤ ts.length * N
  | [], _ => Nat.zero_le _
  | p :: ps, h => by
    have a := tails_len fun q hq => h q (.tail _ hq)
    have b := h p (.head _)
    simp only [List.flatMap_cons, List.length_append, List.length_cons, Nat.succ_mul] at b ⊢
    walk_at "o"
theorem flat_rows : ∀ {ts : List Tail}, (ts.flatMap Tail.rows).length = 2 * ts.length
  | [] => rfl
  | t :: ts => by rw [List.flatMap_cons, List.length_append, flat_rows]; simp only [List.length_cons, List.length_nil]; walk_at "o"
theorem RowVs.length_eq' {n : Led} : ∀ {vs : List Value} {ds : List PyData}, RowVs n vs ds → vs.length = ds.length
  | _, _, .nil => rfl
  | _, _, .cons _ r => by rw [List.length_cons, List.length_cons, RowVs.length_eq' r]
structure TailOk (d : Nat) (ι : Led) (t : Tail) : Prop where
  op : OpSeg ι t.ow t.n
  part : RPart (KA d + 1) (JA d + 2) ι t.pw t.row
  len : t.ws.length ≤ 6 + 2 * LA d
  nok : PyData.strOk t.n = true
  ok : RowOk (JA d + 2) t.row
theorem TailOk.mono {d : Nat} {ι ι' : Led} {t : Tail} (h : TailOk d ι t) (s : Sub ι ι') : TailOk d ι' t := ⟨h.op.mono s, h.part.mono s, h.len, h.nok, h.ok⟩
theorem PartB.more {d e : Nat} {ι : Led} {v : Value} (h : PartB e ι v) (k : e ≤ d) : PartB d ι v := by
  refine oEEEEEEAAA h.ex fun wl row il ws x is a b r zz => ?_; refine oAAAAA zz ?_; clear zz; intro ok n c c2 p q
  have l := LA_mono k
  exact ⟨wl, row, il, ws, x, is, a, b, r, ok.more (by unfold JA; walk_at "o"), by walk_at "o", c, c2, p.more (by unfold EA; walk_at "o") (by unfold JA; walk_at "o"), q.more (by unfold KA; walk_at "o") (by unfold JA; walk_at "o")⟩
theorem patS {d : Nat} (H : PartS d) (H2 : d = 0 ∨ ∃ e, d = e + 1 ∧ PartS e) (hd3 : d ≤ 3) : PatS d := by
  intro l μ ι i u hi h
  subst hi
  refine Spec.to (k := 9 + 4 * d + 1) ?_ (by walk_at "o")
  refine' Spec.intro (k := 9 + 4 * d) (loc := [(s_deep, .int (d : Int) u), (s_brook, .ref l)]) hd.z1015 hd.z1014 ?ho ?hob ?hco' ?hcd ?hbind ?hloc ?hco ?hgen ?hk ?hcell ?hb
  walk_at "M.fn"
  intro c ρ O
  have hLA : LA d ≤ 82340 := LA_le3 hd3
  have hS : sizeLine = 16777216 := sizeLine_eq
  refine W.asgTup (es := [(s_words, _), (s_row, _), (s_items, _)]) O rfl ?_
  walk_at "ry"
  refine W.callS (H rfl h) O (by walk_at "o") fun rp μ1 ι1 s1 gp => ?_
  obtain ⟨gp, hB1⟩ := gp
  refine oEEEEEEAAA gp.ex fun wl row il pw x is ht hwl hrow zz => ?_; refine oAAAAA zz ?_; clear zz; intro rok hlen hil hil2 hpi hpr
  refine ⟨_, ht, rfl, ?_⟩
  show c.W _ _ ((s_items, il) :: (s_row, row) :: (s_words, wl) :: _) _ _
  walk_at "ry"
  rename_i rl ι2 s2 hrl
  refine W.forRange (ρ := ρ) (fun i' m own ι' => ∃ (wl rl il : Value) (ts : List Tail) (us : List Un) (rvs : List Value), At s_words wl m ∧ At s_rows rl m ∧ At s_items il m ∧ At s_row row m ∧ At s_brook (.ref l) m ∧ At s_deep (.int (d : Int) u) m ∧ Brk l own ∧
    ListF ι' wl (pw ++ ts.flatMap Tail.ws) ∧ ListF ι' rl rvs ∧ RowVs ι' rvs (x :: ts.flatMap Tail.rows) ∧ ListF ι' il (us.flatMap (·.1)) ∧ UnOk (EA d + 2) (JA d + 2) ι' false us ∧ us.map (·.2) = x :: ts.flatMap Tail.rows ∧ us.head? = some (is, x) ∧ us.length = 1 + 2 * i' ∧ (us.flatMap (·.1)).length ≤ 2 + 3 * i' ∧ (∀ t ∈ ts, TailOk d ι' t) ∧ ts.length = i' ∧ i' ≤ 3 ∧ (d = 0 → i' = 0) ∧ Sub ι2 ι' ∧ True) O ?_
  refine W.mono (Q := fun v m' μ' ι' => ∃ n μb, n ≤ 3 ∧ (d = 0 → n = 0) ∧ RangeF ι' v n ∧ m' = [(s_rows, rl), (s_items, il), (s_row, row), (s_words, wl), (s_deep, .int (d : Int) u), (s_brook, .ref l)] ∧ μ' = μb ++ ρ ∧ Brk l μb ∧ Sub ι2 ι') ?_ ?_
  · walk_at "ry"
    show ite _ _ _
    by_cases e0 : d = 0
    · refine W.iteF (decide_eq_false (by walk_at "o")) ?_
      walk_at "ry"
      refine W.range (j := 0) rfl fun vr ι8 s8 hr => ?_
      exact ⟨0, μ1, by walk_at "o", fun _ => rfl, hr, rfl, rfl, hB1, by walk_at "M.sub"⟩
    · refine W.iteT (decide_eq_true (by walk_at "o")) ?_
      walk_at "ry"
      refine W.c_cup (many := 4) O hB1 (by decide) (by decide) (by walk_at "o") fun g u1 μ3 ι3 hg s3 hB3 => ?_
      walk_at "ry"
      refine W.range (j := g) rfl fun vr ι8 s8 hr => ?_
      exact ⟨g, μ3, by walk_at "o", fun z => absurd z e0, hr, rfl, rfl, hB3, by walk_at "M.sub"⟩
  · intro vr m' μ' ι' P
    refine oEEAAAAAA P ?_; clear P; intro n μb hn3 hn0 hr zo5 zo6 hB s'; obtain rfl := zo5; obtain rfl := zo6
    refine ⟨n, μb, by walk_at "o", hr, rfl, ⟨wl, rl, il, [], [(is, x)], [row], by walk_at "M.at", by walk_at "M.at", by walk_at "M.at", by walk_at "M.at", by walk_at "M.at", by walk_at "M.at", hB, (hwl.mono (by walk_at "M.sub")).cast' (by simp), by walk_at "M.fact", .cons (hrow.mono (by walk_at "M.sub")) .nil, (hil.mono (by walk_at "M.sub")).cast' (by simp), ⟨hpi.mono (by walk_at "M.sub"), trivial⟩, rfl, rfl, rfl, by simpa using hil2, (fun _ h => by cases h), rfl, by walk_at "o", fun _ => rfl, by walk_at "M.sub", trivial⟩, ?_, ?_⟩
    · intro i' t m' own ι' ρ' hi' j
      refine oEEEEEEAAA j ?_; clear j; intro wl rl il ts us rvs a1 a2 a3 zz; refine oAAAAAAAAA zz ?_; clear zz; intro a4 a5 a6 hB' hwl' hrl' hrvs hil' hu zz; refine oAAAAAAAAA zz ?_; clear zz; intro hum huh hul hus hts hln hi3 hd0 s9 _
      obtain ⟨e, rfl, HE⟩ : ∃ e, d = e + 1 ∧ PartS e := by
        rcases H2 with z | z
        · exact absurd (hn0 z) (by walk_at "o")
        · exact z
      have hjl : (ts.flatMap Tail.ws).length ≤ ts.length * (6 + 2 * LA (e + 1)) := tails_len fun t ht => (hts t ht).len
      have hjl2 : (ts.flatMap Tail.ws).length ≤ 3 * (6 + 2 * LA (e + 1)) := Nat.le_trans hjl (Nat.mul_le_mul (by walk_at "o") (Nat.le_refl _))
      refine W.asgSwap (names := [s_sign, s_part]) O ?_
      walk_at "ry"
      refine W.c_oper2 O hB' (by walk_at "o") fun so μ10 ι10 s10 gso hB10 => ?_
      refine oEEEEEEAAA gso.ex fun ol orow ond ow on ou hot hol hos zz => ?_; refine oAAA zz ?_; clear zz; intro horow honok hoI how3
      walk_at "ry"
      refine W.callS (HE (by walk_at "o") hB10) O (by walk_at "o") fun rp μ11 ι11 s11 gp => ?_
      obtain ⟨gp, hB11⟩ := gp
      refine oEEEEEEAAA ((gp.more (d := e + 1) (by walk_at "o")).ex) fun wl2 row2 il2 pw2 x2 is2 ht2 hwl2 hrow2 zz => ?_; refine oAAAAA zz ?_; clear zz; intro rok2 hlen2 hil2' hil22 hpi2 hpr2
      walk_at "ry"
      refine ⟨_, by assumption, rfl, ?_⟩
      show c.W _ _ ((s_sign, so) :: (s_part, rp) :: _) _ _
      refine W.asgSwap (names := [s_words, s_rows, s_items]) O ?_
      walk_at "ry"
      refine W.titem (j := 0) (hot.mono (by walk_at "M.sub")) rfl ?_
      walk_at "ry"
      refine W.cat_ (by walk_at "M.fact") (hol.mono (by walk_at "M.sub")) (by simp only [List.length_append]; walk_at "o") fun wa ι12 s12 hwa => ?_
      walk_at "ry"
      refine W.titem (j := 0) (ht2.mono (by walk_at "M.sub")) rfl ?_
      walk_at "ry"
      refine W.cat_ (by walk_at "M.fact") (hwl2.mono (by walk_at "M.sub")) (by simp only [List.length_append]; walk_at "o") fun wb ι13 s13 hwb => ?_
      walk_at "ry"
      refine W.titem (j := 1) (hot.mono (by walk_at "M.sub")) rfl ?_
      walk_at "ry"
      refine W.titem (j := 1) (ht2.mono (by walk_at "M.sub")) rfl ?_
      walk_at "ry"
      have hrvl : rvs.length ≤ 10 := by
        have z := hrvs.length_eq'
        simp only [List.length_cons] at z
        have y : (ts.flatMap Tail.rows).length = 2 * ts.length := flat_rows
        walk_at "o"
      refine W.cat_ (by walk_at "M.fact") (by walk_at "M.fact") (by simp only [List.length_cons, List.length_nil]; walk_at "o") fun ra ι14 s14 hra => ?_
      walk_at "ry"
      refine W.titem (j := 2) (hot.mono (by walk_at "M.sub")) rfl ?_
      walk_at "ry"
      refine W.cat_ (by walk_at "M.fact") (by walk_at "M.fact") (by simp only [List.length_cons, List.length_nil]; walk_at "o") fun ia ι15 s15 hia => ?_
      walk_at "ry"
      refine W.titem (j := 2) (ht2.mono (by walk_at "M.sub")) rfl ?_
      walk_at "ry"
      refine W.cat_ (by walk_at "M.fact") (hil2'.mono (by walk_at "M.sub")) (by simp only [List.length_append, List.length_cons, List.length_nil]; walk_at "o") fun ib ι16 s16 hib => ?_
      walk_at "ry"
      refine ⟨_, by assumption, rfl, ?_⟩
      show c.W _ _ ((s_words, wb) :: (s_rows, ra) :: (s_items, ib) :: _) _ _
      walk_at "ry"
      refine ⟨rfl, μ11, rfl, wb, ra, ib, ts ++ [⟨ow, on, pw2, x2⟩], us ++ [([ond], .tuple [.str s_op, .str on, .bool true]), (is2, x2)], rvs ++ [orow, row2], by walk_at "M.at", by walk_at "M.at", by walk_at "M.at", by walk_at "M.at", by walk_at "M.at", by walk_at "M.at", hB11, (hwb.mono (by walk_at "M.sub")).cast' (by simp), by walk_at "M.fact", ?_, (hib.mono (by walk_at "M.sub")).cast' (by simp), ?_, by simp [hum], ?_, by simp; walk_at "o", by simp at hus ⊢; walk_at "o", ?_, by simp; walk_at "o", by walk_at "o", fun z => absurd z (by walk_at "o"), by walk_at "M.sub", trivial⟩
      · have z := (hrvs.mono (by walk_at "M.sub" : Sub _ ι16)).append (.cons (horow.mono (by walk_at "M.sub")) (.cons (hrow2.mono (by walk_at "M.sub")) .nil))
        simpa using z.mono (by walk_at "M.sub")
      · exact UnOk.app ⟨_, _, _, _, rfl, hoI.mono (by walk_at "M.sub"), rfl⟩ (hpi2.mono (by walk_at "M.sub")) (hu.mono (by walk_at "M.sub")) (by rw [hul, Bool.toNat_false]; walk_at "o")
      · cases us with
        | nil => cases huh
        | cons u us => exact huh
      · intro t ht
        rcases List.mem_append.mp ht with ht | ht
        · exact (hts t ht).mono (by walk_at "M.sub")
        · rw [List.mem_singleton.mp ht]
          exact ⟨hos.mono (by walk_at "M.sub"), hpr2.mono (by walk_at "M.sub"), by simp only [Tail.ws, List.length_append]; walk_at "o", honok, rok2⟩
    · intro m' own ι' j
      refine oEEEEEEAAA j ?_; clear j; intro wl rl il ts us rvs a1 a2 a3 zz; refine oAAAAAAAAA zz ?_; clear zz; intro a4 a5 a6 hB' hwl' hrl' hrvs hil' hu zz; refine oAAAAAAAAA zz ?_; clear zz; intro hum huh hul hus hts hln hi3 hd0 s9 _
      have hjl : (ts.flatMap Tail.ws).length ≤ ts.length * (6 + 2 * LA d) := tails_len fun t ht => (hts t ht).len
      have hjl2 : (ts.flatMap Tail.ws).length ≤ 3 * (6 + 2 * LA d) := Nat.le_trans hjl (Nat.mul_le_mul (by walk_at "o") (Nat.le_refl _))
      have hrvl : rvs.length = 1 + 2 * n := by
        have z := hrvs.length_eq'
        simp only [List.length_cons] at z
        have y : (ts.flatMap Tail.rows).length = 2 * ts.length := flat_rows
        walk_at "o"
      have hp := pat_of (K := KA d + 1) (J := JA d + 2) (ts := ts) (by unfold KA; walk_at "o") (by walk_at "o") (hpr.mono (by walk_at "M.sub") : RPart _ _ ι' _ _) (fun t ht => ⟨(hts t ht).op, (hts t ht).part⟩) (by walk_at "o")
      walk_at "ry"
      refine W.len_ hrl' (by walk_at "o") fun _ => ?_
      walk_at "ry"
      show ite _ _ _
      by_cases e0 : n = 0
      · refine W.iteT (decide_eq_true (by walk_at "o")) ?_
        have e1 : ts = [] := List.length_eq_zero_iff.mp (by walk_at "o")
        subst e1
        walk_at "ry"
        refine Ends.ret (by walk_at "M.sub") ⟨⟨_, _, _, _, _, us, is, x, by walk_at "M.fact", hwl'.mono (by walk_at "M.sub"), hrow.mono (by walk_at "M.sub"), rok.more (by walk_at "o"), by simp only [List.flatMap_nil, List.append_nil]; walk_at "o", hil'.mono (by walk_at "M.sub"), hu.mono (by walk_at "M.sub"), huh, ?_, by walk_at "o", by walk_at "o", hp.mono (by walk_at "M.sub")⟩, hB'⟩
        match us, hul with
        | [u], _ => rfl
        | [], z => exact absurd z (by rw [List.length_nil]; walk_at "o")
        | _ :: _ :: _, z => exact absurd z (by simp only [List.length_cons]; walk_at "o")
      · refine W.iteF (decide_eq_false (by walk_at "o")) ?_
        walk_at "ry"
        refine W.tupleOf_ hrl' (by walk_at "o") fun rt ι10 s10 hrt => ?_
        walk_at "ry"
        have hrow' : RowV ι10 rt (.tuple (x :: ts.flatMap Tail.rows)) := RowV.tupF hrt (hrvs.mono s10)
        have e1 : patRow x ts = .tuple [.str s_pinfix, .tuple (x :: ts.flatMap Tail.rows)] := by
          match ts, hln with
          | [], z => exact absurd z (by rw [List.length_nil]; walk_at "o")
          | _ :: _, _ => rfl
        have e2 : rowOf x us = .tuple [.str s_pinfix, .tuple (x :: ts.flatMap Tail.rows)] := by
          rw [← hum]
          match us, hul with
          | [], z => exact absurd z (by rw [List.length_nil]; walk_at "o")
          | [_], z => exact absurd z (by simp only [List.length_cons, List.length_nil]; walk_at "o")
          | _ :: _ :: _, _ => rfl
        rw [e1] at hp
        refine Ends.ret (by walk_at "M.sub") ⟨⟨_, _, _, _, _, us, is, x, by walk_at "M.fact", hwl'.mono (by walk_at "M.sub"), .tupF (by walk_at "M.fact") (.cons (.str _ _) (.cons (hrow'.mono (by walk_at "M.sub")) .nil)), ?_, by simp only [List.length_append]; walk_at "o", hil'.mono (by walk_at "M.sub"), hu.mono (by walk_at "M.sub"), huh, e2, by walk_at "o", by walk_at "o", hp.mono (by walk_at "M.sub")⟩, hB'⟩
        refine rowOk2 (D := JA d + 3) (by kernel_rfl!) (RowOk.tuple (D := JA d + 2) fun y hy => ?_)
        rcases List.mem_cons.mp hy with rfl | hy
        · exact rok
        · refine oEA (List.mem_flatMap.mp hy) fun t ht hy => ?_
          rcases List.mem_cons.mp hy with rfl | hy
          · exact (rowOk3 (D := 0) (by kernel_rfl!) (hts t ht).nok .bool).more (by walk_at "o")
          · rw [List.mem_singleton.mp hy]; exact (hts t ht).ok
theorem built : ∀ d, d ≤ 3 → AtomS d ∧ PartS d ∧ PatS d
  | 0, h => by
    have a : AtomS 0 := fun hi hB => atom0 hi hB
    have p : PartS 0 := partS a h
    exact ⟨a, p, patS p (.inl rfl) h⟩
  | d + 1, h => by
    refine oAA (built d (by walk_at "o")) fun _ p0 q0 => ?_
    have a : AtomS (d + 1) := fun hi hB => Spec.to (atomS q0 (by walk_at "o") hi hB) (by walk_at "o")
    have p : PartS (d + 1) := partS a h
    exact ⟨a, p, patS p (.inr ⟨d, rfl, p0⟩) h⟩
section
variable {c : Cx} {sc : Scope} {m : Lc} {μ ι ρ : Led} {k : Nat}
theorem W.newM {C fI : Addr} {vs : List Value} {P : Lc → Prop} {j : Nat} {Q : Po Value} (O : c.Ok sc k) (mk : MakeF C fI) (hj : j + 1 ≤ k)
    (init : ∀ x dx, Spec j fI (.ref x :: vs) [(dx, emptyDict)] ((x, instObj C dx) :: ι) (InitR dx P))
    (q : ∀ x dx o ι' fs, Sub ι ι' → (x, instObj C dx) ∈ ι' → DObj o fs → P fs → Q (.ref x) m ((dx, o) :: μ) ι') : c.W (PySem.call (.ref C) vs) Q m μ ι := .mk fun hp tk S => by
  refine oEA S.F fun mf F hf' => ?_
  refine oEA mk.ex fun K X mk => ?_
  refine call_cls F (X _ _ O.inK) S.N (mk _).1 (mk _).2.1 (mk _).2.2 fun x dx h' F' N' l1 l2 => ?_
  refine oEEAA (under_make c.A C vs) fun d u e hd hu => ?_
  rw [e]
  let c' : Cx := { c with A := { c.A with depth := c.A.depth + d, units := c.A.units + u }, E := bad }
  have O' : c'.Ok sc j := ⟨O.below, O.inK, O.top, O.frames, O.handled, O.kind, by show c.A.depth + d + j < _; have := O.depth; walk_at "o", by show c.A.units + u + 8 * j + 64 < _; have := O.units; walk_at "o", PassesOwn.never⟩
  have A₂ : Apart ([] ++ (dx, emptyDict) :: μ) ι := Apart.newM (μ₁ := []) S.D l1
  have A₃ : Apart ((dx, emptyDict) :: μ) ((x, instObj C dx) :: ι) := Apart.newI A₂ fun q hq => by
    rcases List.mem_cons.mp hq with rfl | hq
    · exact l2
    · exact Nat.lt_trans (l1 q hq) l2
  have S' : StF c' mf ([(dx, emptyDict)] ++ μ) ((x, instObj C dx) :: ι) h' := ⟨F', fun p hp => N' p (by
    simp only [List.mem_append, List.mem_cons, List.mem_nil_iff, or_false] at hp ⊢
    rcases hp with (rfl | a) | rfl | a <;> first | exact .inr (.inl rfl) | exact .inl rfl | simp [a]), A₃⟩
  refine (init x dx).run c' sc O' mf μ _ h' tk S' fun r h'' tk' μ' ι' S'' hι R => ?_
  refine oAEEAA R ?_; clear R; intro zo0 o fs zo3 hd' hP; obtain rfl := zo0; obtain rfl := zo3
  exact ⟨rfl, h'', tk', m, (dx, o) :: μ, ι', rfl, ⟨⟨mf, S''.F, hf'⟩, S''.N, S''.D⟩, q x dx o ι' fs (fun p hp => hι p (.tail _ hp)) (hι _ (.head _)) hd' hP⟩
end
theorem law_turned {K J : Nat} {ι : Led} {v : Value} {x : PyData} (h : Exp K J ι v x) (hJK : J ≤ K) : Spec (K + 1) 1029 [v] [] ι (fun r μ' ι' => RowV ι' r x ∧ μ' = []) := by
  refine' Spec.intro (k := K) (loc := [(s_expression, v)]) hd.z1029 hd.z1028 ?ho ?hob ?hco' ?hcd ?hbind ?hloc ?hco ?hgen ?hk ?hcell ?hb
  walk_at "M.fn"
  intro c ρ O
  refine W.try_ ?_
  have O2 := O.withE (E := bad) PassesOwn.never
  revert O2
  generalize ({ c with E := bad } : Cx) = c2
  intro O2
  walk_at "rw"
  refine W.c_turn O2 h (Nat.le_refl _) fun r ι1 s1 hr => ?_
  refine W.c_row O2 hr hJK _ fun r2 ι2 s2 hr2 => ?_
  exact Ends.ret (μ := []) (ρ := ρ) (Sub.trans s1 s2) ⟨hr2, rfl⟩
theorem law_read {K J : Nat} {ι : Led} {wl : Value} {ws tl : List Value} {x : PyData} (hl : ListF ι wl (ws ++ tl)) (hn : (ws ++ tl).length < 2 ^ 20) (ht : tl = [] ∨ ∃ v r k t y, tl = v :: r ∧ WordV ι v k t y ∧ eQ k t y = true) (h : RPat K J ι ws x) (hJK : J ≤ K) (hK : 4 ≤ K) : Spec (K + 1) 1022 [wl] [] ι (fun r μ' ι' => RowV ι' r (.tuple [x, .int (ws.length : Int)]) ∧ μ' = []) := by
  refine' Spec.intro (k := K) (loc := [(s_words, wl)]) hd.z1022 hd.z1021 ?ho ?hob ?hco' ?hcd ?hbind ?hloc ?hco ?hgen ?hk ?hcell ?hb
  walk_at "M.fn"
  intro c ρ O
  walk_at "ry"
  rename_i e ι1 s1 Ie
  have we : WordV ι1 e s_end h_nil .none := by walk_at "M.word"
  refine W.newM O (nF .WordRow) (j := 1) (by walk_at "o") (fun x dx => init_WordRow (.head _)) fun xr dr orr ι2 fs s2 hxr hdr hfs => ?_
  obtain ⟨t0, rfl⟩ := hfs
  walk_at "ry"
  refine W.try_ ?_
  have O2 := O.withE (E := bad) PassesOwn.never
  revert O2
  generalize ({ c with E := bad } : Cx) = c2
  intro O2
  walk_at "ry"
  refine W.newM O2 (nF .Cursor) (j := 1) (by walk_at "o") (fun x dx => init_Cursor (.head _)) fun xc dc oc ι3 fs s3 hxc hdc hfs => ?_
  subst hfs
  walk_at "ry"
  have hwl : handedIn wl = true := by refine oEEA hl.ex fun a o zo2 _ => ?_; obtain rfl := zo2; rfl
  let R : Rd := ⟨xc, dc, xr, dr, wl, ws ++ tl, e⟩
  have ok : R.Ok ι3 := ⟨hxc, s3 _ hxr, hl.mono (by walk_at "M.sub"), we.mono (by walk_at "M.sub"), hn, hwl, we.href⟩
  have hc : Cur R 0 [(dc, oc), (dr, orr)] := ⟨oc, orr, .none, t0, rfl, rfl, hdc, hdr⟩
  have nx : Nx eQ R ι3 (0 + ws.length) := by
    rcases ht with rfl | ⟨v, r, k, t, y, rfl, w, hq⟩
    · exact ⟨_, _, _, by rw [show R.at (0 + ws.length) = e by rw [Nat.zero_add]; show (ws ++ [])[ws.length]?.getD e = e; simp]; exact we.mono (by walk_at "M.sub"), by kernel_rfl!⟩
    · exact ⟨k, t, y, by rw [show R.at (0 + ws.length) = v by rw [Nat.zero_add]; show (ws ++ v :: r)[ws.length]?.getD e = v; simp]; exact w.mono (by walk_at "M.sub"), hq⟩
  refine W.c_pat (R := R) (i := 0) (μ := [(dc, oc), (dr, orr)]) O2 hc ok (h.mono (by walk_at "M.sub")) ⟨[], tl, by simp [R], rfl⟩ nx (Nat.le_refl _) fun r ι4 μ4 s4 hr hc4 => ?_
  refine oEEEEAAA hc4.ex fun oc4 or4 la t4 zo4 hla hdc4 hdr4 => ?_; obtain rfl := zo4
  rw [Nat.zero_add] at hdr4
  have hxr4 := (ok.mono s4).r
  walk_at "ry"
  refine W.c_row O hr hJK _ fun r2 ι5 s5 hr2 => ?_
  walk_at "rw"
  refine W.freeze (μ₁ := []) ?_
  refine W.freeze (μ₁ := []) ?_
  refine W.tup_ (by walk_at "M.sz") fun res ι6 s6 hres => ?_
  have s56 : Sub ι5 ι6 := fun p hp => s6 _ (.tail _ (.tail _ hp))
  exact Ends.ret (μ := []) (ρ := ρ) (fun p hp => s56 _ (s5 _ (s4 _ (s3 _ (s2 _ (s1 _ hp)))))) ⟨RowV.tupF hres (.cons (hr2.mono s56) (.cons (.int _ _) .nil)), rfl⟩
theorem law_brook {ι : Led} {v : Value} {xs : List Value} {k : Nat} {t : Tok} (hl : ListF ι v xs) (hx : ∀ x ∈ xs, ∃ n u, x = .int n u) (hn : xs.length < 1000) (hk : k < 1000) :
    Spec 1 952 [v, .int (k : Int) t] [] ι (fun r μ' _ => ∃ l, r = .ref l ∧ Brk l μ') := by
  refine' Spec.intro (k := 0) (loc := [(s_k, .int (k : Int) t), (s_script, v)]) hd.z952 hd.z951 ?ho ?hob ?hco' ?hcd ?hbind ?hloc ?hco ?hgen ?hk ?hcell ?hb
  walk_at "M.fn"
  intro c ρ O
  walk_at "rw"
  refine W.len_ hl (by walk_at "o") fun _ => ?_
  walk_at "rw"
  show ite _ _ _
  by_cases e : k < xs.length
  · refine W.iteT (decide_eq_true (by walk_at "o")) ?_
    refine oEE (hx _ (List.getElem_mem e)) fun n u hnu => ?_
    walk_at "rw"
    refine W.item_ hl (by walk_at "o") (by walk_at "o") (x := .int n u) (by rw [Int.toNat_natCast, List.getElem?_eq_getElem e, hnu]) ?_
    walk_at "rw"
    refine W.absI fun _ => ?_
    walk_at "rw"
    refine W.modI (by decide) fun _ => ?_
    walk_at "rw"
    refine W.mulI (.of_left (by decide)) fun _ => ?_
    walk_at "rw"
    refine W.mulI (.of_right (by decide)) fun _ => ?_
    walk_at "rw"
    refine W.modI (by decide) fun _ => ?_
    walk_at "rw"
    refine W.listP (μ₁ := []) (by walk_at "M.sz") fun l o ho => ?_
    exact Ends.ret (μ := [(l, o)]) (ρ := ρ) Sub.refl ⟨l, rfl, o, _, _, _, _, rfl, ho.lobj, by split <;> walk_at "o", by rw [Int.fmod_eq_emod_of_nonneg _ (by decide)]; exact Int.emod_nonneg _ (by decide), by rw [Int.fmod_eq_emod_of_nonneg _ (by decide)]; exact Int.emod_lt_of_pos _ (by decide)⟩
  · refine W.iteF (decide_eq_false (by walk_at "o")) ?_
    walk_at "rw"
    refine W.modI (by decide) fun _ => ?_
    walk_at "rw"
    refine W.mulI (.of_left (by decide)) fun _ => ?_
    walk_at "rw"
    refine W.mulI (.of_right (by decide)) fun _ => ?_
    walk_at "rw"
    refine W.modI (by decide) fun _ => ?_
    walk_at "rw"
    refine W.listP (μ₁ := []) (by walk_at "M.sz") fun l o ho => ?_
    exact Ends.ret (μ := [(l, o)]) (ρ := ρ) Sub.refl ⟨l, rfl, o, _, _, _, _, rfl, ho.lobj, by decide, by rw [Int.fmod_eq_emod_of_nonneg _ (by decide)]; exact Int.emod_nonneg _ (by decide), by rw [Int.fmod_eq_emod_of_nonneg _ (by decide)]; exact Int.emod_lt_of_pos _ (by decide)⟩
open Sem (wp)
section
variable {prog : Program} {w : World} {A : Around} {E : Value → Shared → Prop} {h : Heap} {g : Array GenState} {d : Drawn} {t : Nat} {os : OsState}
variable {nm q : Str} {C D N : Addr} {bs : List Value} {hdct : Bool} {sn : List Str} {sub : List Value} {ab : Bool} {col : Option Bool} {dd : Option Addr} {k0 k1 k2 k3 k5 : Option Value}
abbrev exB : List Value := [.type "Exception", .type "BaseException", .type "object"]
abbrev exNew (C t : Addr) : Obj := { cls := .ref C, data := .fields #[.ref t, .none, .none, .none, .bool false, .none] }
theorem ex_has (x : String) (hx : exB.contains (.type x) = true) : (Value.ref C :: .ref D :: exB).contains (.type x) = true := by rw [List.contains_cons, List.contains_cons, hx]; simp
theorem ex_not (x : String) (hx : exB.contains (.type x) = false) : (Value.ref C :: .ref D :: exB).contains (.type x) = false := by rw [List.contains_cons, List.contains_cons, hx]; rfl
theorem ex_check_new {M : Model} {rest : List Value} {Q : Unit → Shared → Prop} (hC : h.get? C = some (excClassObj nm q C N bs (.ref D :: exB) hdct sn sub ab col dd k0 k1 k2 k3 k5 "Exception.__new__"))
    (hq : Q () ⟨h, g, d, t, os⟩) : wpAny M A (checkBuiltinCall "Exception.__new__" ⟨.ref C :: rest, []⟩) Q E ⟨h, g, d, t, os⟩ := by
  have F := PySem.F.excBase_Exception
  have hcont := ex_has (C := C) (D := D) "Exception" (by decide +kernel)
  have hstar := F.noStar
  simp only [checkBuiltinCall, F.newKind, F.newSplit, F.newRow]
  repeat (first | refine wpAny_loadPart_at hC ?_ | (refine wpAny_isSubtype_exc hC ?_; rw [hcont]) | refine wpAny_staticBase_exc hC ?_ | refine wpAny_madeBy_exc hC ?_ | simp only [bne_self_eq_false, Bool.false_eq_true, if_false] | wp_step)
  exact hq
theorem ex_new {R : Result → Shared → Prop} {rest : List Value} (hC : h.get? C = some (excClassObj nm q C N bs (.ref D :: exB) hdct sn sub ab col dd k0 k1 k2 k3 k5 "Exception.__new__"))
    (hq : R (.ok (.ret (.ref (h.objs.size + 1)))) ⟨(h.push { cls := .type "tuple", data := .seq rest.toArray }).push (exNew C h.objs.size), g, d, t, os⟩) (hrest : rest.length ≤ sizeLine) :
    codeAny (model prog w) A (.builtin "Exception.__new__" ⟨.ref C :: rest, []⟩) R ⟨h, g, d, t, os⟩ := by
  have F := PySem.F.excBase_Exception
  have hends := F.ends
  have hcB := ex_has (C := C) (D := D) "Exception" (by decide +kernel)
  have hcA := ex_not (C := C) (D := D) "AttributeError" (by decide +kernel)
  have hcN := ex_not (C := C) (D := D) "NameError" (by decide +kernel)
  refine codeAny_builtinAt F.entry ?_
  unfold Builtin.«BaseException.__new__»
  refine PySem.wpAt_bind ?_
  show PySem.wpAt _ _ _ (stack >>= _) _ _ _
  refine PySem.wpAt_bind (PySem.wpAt_stack fun p below => PySem.wpAt_of_wpAny ?_)
  wp_walk
  refine PySem.wpAt_of_wpAny ?_
  rw [F.owner]
  repeat (first | with_reducible refine wpAny_madeHere_exc F.canon hC ?_ | with_reducible refine wpAny_loadPart_at hC ?_ | (with_reducible refine wpAny_isSubtype_exc hC ?_; first | rw [hcB] | rw [hcA] | rw [hcN]) | wp_step)
  show R _ _
  rw [Heap.size_push]
  exact hq
theorem ex_type_call {rest : List Value} {fI : Addr} {oI : Obj} {Q : Fin → Shared → Prop} (hC : h.get? C = some (excClassObj nm q C N bs (.ref D :: exB) hdct sn sub ab col dd k0 k1 k2 k3 k5 "Exception.__new__"))
    (hi : Looks (model prog w) h (typeLookup (.ref C) "__init__") (some (.ref fI))) (hfI : h.get? fI = some oI) (hfc : oI.cls = .type "function")
    (hq : ∀ h' e, Heap.MadeExcOf h h' e (.ref C) rest → wpAny (model prog w) A (call (.ref fI) (.ref e :: rest)) (fun r s' => r = .none ∧ Q (.done (.ret (.ref e))) s') E ⟨h', g, d, t, os⟩) (hrest : rest.length ≤ sizeLine) :
    wpAny (model prog w) A (Builtin.«type.__call__» ⟨.ref C :: rest, []⟩) Q E ⟨h, g, d, t, os⟩ := by
  repeat (first | with_reducible refine wpAny_loadPart_at hC ?_ | with_reducible refine wpAny_madeBy_exc hC ?_ | wp_step)
  refine codeAny_call_builtin_code (Code.quiet_builtin _ PySem.F.excBase_Exception.quiet) (ex_check_new hC ?_)
  refine ex_new hC ?_ hrest
  show wpAny _ _ _ _ _ _
  have kp : ∀ b o, h.get? b = some o → ((h.push { cls := .type "tuple", data := .seq rest.toArray }).push (exNew C h.objs.size)).get? b = some o := fun b o e => Heap.get?_push_of_some _ (Heap.get?_push_of_some _ e)
  have hC₁ := kp _ _ hC
  have hfI₁ := kp _ _ hfI
  have hi₁ := hi.keeps kp
  have hget : ((h.push { cls := .type "tuple", data := .seq rest.toArray }).push (exNew C h.objs.size)).get? (h.objs.size + 1) = some (exNew C h.objs.size) := by heap_get
  have hcC : (Value.ref C :: .ref D :: exB).contains (.ref C) = true := by simp
  unfold isInstance
  repeat (first | with_reducible refine wpAny_loadPart_at hget ?_ | (with_reducible refine wpAny_isSubtype_exc hC₁ ?_; rw [hcC]) | wp_step)
  show wpAny _ _ (typeLookup (.ref C) _) _ _ _
  refine hi₁.here ?_
  refine wpAny_holding (wpAny_bind ?_)
  unfold bindSpecial
  refine wpAny_bind (wpAny_typeOf (T := "function") ⟨_, hfI₁, hfc⟩ ?_)
  rw [if_pos (by decide)]
  refine wpAny_pure (wpAny_bind (wpAny_mono (hq _ (h.objs.size + 1) ⟨kp, Heap.get?_none_of_le (Nat.le_succ _), h.objs.size, hget, Heap.get?_none_of_le (Nat.le_refl _), ?_⟩) (fun r s' hr => ?_) fun _ _ x => x))
  · exact Heap.get?_push_of_some _ (Heap.get?_push_at rfl rfl)
  · obtain ⟨rfl, hQ⟩ := hr
    wp_walk
    exact hQ
theorem ex_call {rest : List Value} {fI : Addr} {oI : Obj} {Q : Value → Shared → Prop} (hC : h.get? C = some (excClassObj nm q C N bs (.ref D :: exB) hdct sn sub ab col dd k0 k1 k2 k3 k5 "Exception.__new__"))
    (hi : Looks (model prog w) h (typeLookup (.ref C) "__init__") (some (.ref fI))) (hfI : h.get? fI = some oI) (hfc : oI.cls = .type "function")
    (hq : ∀ h' e, Heap.MadeExcOf h h' e (.ref C) rest → wpAny (model prog w) (A.under (.builtin "type.__call__" ⟨.ref C :: rest, []⟩)) (call (.ref fI) (.ref e :: rest)) (fun r s' => r = .none ∧ Q (.ref e) s') E ⟨h', g, d, t, os⟩) (hrest : rest.length ≤ sizeLine) :
    wpAny (model prog w) A (call (.ref C) rest) Q E ⟨h, g, d, t, os⟩ := by
  have f1 := tc_lookup
  have f2 := tc_bind (.ref C)
  have hT : (⟨h, g, d, t, os⟩ : Shared).TypeIs (.ref C) "type" := ⟨_, hC, rfl⟩
  refine wpAny_call (codeAny_of_tree ?_)
  show wpAny _ _ (callAny (.ref C) _) _ _ _
  repeat (any_goals (first | assumption | with_reducible refine wpAny_loadPart_at hC ?_ | wp_step))
  refine ⟨rfl, ?_⟩
  refine codeAny_call_builtin_at (Code.quiet_builtin _ (by decide +kernel)) entry_typeCall (wpAny_check_type_call_sub hC (ex_type_call (hrest := hrest) hC hi hfI hfc fun h' e hm => ?_))
  exact hq h' e hm
theorem ex_init {e t₀ : Addr} {rest : List Value} {R : Result → Shared → Prop} (hC : h.get? C = some (excClassObj nm q C N bs (.ref D :: exB) hdct sn sub ab col dd k0 k1 k2 k3 k5 "Exception.__new__")) (he : h.get? e = some (exNew C t₀))
    (hq : R (.ok (.ret .none)) ⟨(h.push { cls := .type "tuple", data := .seq rest.toArray }).update e (Obj.mapFields (·.setIfInBounds 0 (.ref h.objs.size))), g, d, t, os⟩) (hrest : rest.length ≤ sizeLine) :
    codeAny (model prog w) A (.call (.builtin "Exception.__init__") ⟨.ref e :: rest, []⟩) R ⟨h, g, d, t, os⟩ := by
  have F := PySem.F.excBase_Exception
  have hcB := ex_has (C := C) (D := D) "Exception" (by decide +kernel)
  refine codeAny_call_builtin F.init.plain F.initEntry ?_
  have hshort := F.noStar
  simp only [checkBuiltinCall, F.initKind, F.initSplit, F.initRow]
  repeat (first | with_reducible refine wpAny_loadPart_at he ?_ | with_reducible refine wpAny_loadPart_at hC ?_ | (with_reducible refine wpAny_isSubtype_exc hC ?_; rw [hcB]) | wp_step)
  refine wpAny_onRaise ?_
  rw [show ∀ (a b : String) (n : Nat), Bind.check ⟨.positional, "*", "Exception", .self, [⟨"args", .varPos, false⟩]⟩ a b n (List.map (fun x => x.fst) ({ pos := Value.ref e :: rest } : Args).kw) = pure () from
    fun a b n => check_star_args _ _ _ _ _ _]
  refine wpAny_pure ?_
  wp_walk
  exact hq
end
section
open Sem (wp)
open Builtin Builtin.ObjectAttr
abbrev exT (C t : Addr) (d : Option Addr) : Obj := { cls := .ref C, dict := d, data := .fields #[.ref t, .none, .none, .none, .bool false, .none] }
section
variable {prog : Program} {w : World} {A : Around} {K : Frag} {C D x : Addr} {s : Shared} {h₀ : Heap} {L : Addr} {m : Str → Option Value} {news : List (Addr × Obj)} {R : Result → Shared → Prop} {cd : ClassData}
theorem ex_osa {ox : Obj} {od : Option Obj} {name : Str} {tk : Tok} {v : Value} (X : K.In s.heap) (I : InstAt s.heap x ox C od) (hc : clsIn K C = some cd) (hm : cd.mro = .ref C :: .ref D :: exB) (ht : takerIn K C name = some none)
    (h : ∀ b, wpAny (model prog w) A.in1 (Builtin.ObjectAttr.storeInOwnDict (.ref x) (.ref C) (.str name tk) name v b)
      (fun fin s' => match fin with | .done f => R (.ok f) s' | .again c' => c'.quiet = true ∧ codeAny (model prog w) A c' R s') (fun e s' => R (.error e) s') s) :
    codeAny (model prog w) A (.call (.builtin "object.__setattr__") ⟨[.ref x, .str name tk, v], []⟩) R s := by
  have SF := PySem.F.store_object
  have sub : Looks (model prog w) s.heap (isInstance (.ref x) (.type "object")) true := I.type.andThen (looks_mroIn X (by unfold mroIn; rw [hc, Option.bind_some, hm, if_neg (by simp)]; simp))
  refine codeAny_call_builtin SF.slot.plain SF.entry (@check_slot (model prog w) _ _ s "object.__setattr__" "object" "__setattr__" (.ref x) [.str name tk, v] [] _ SF.kind SF.split sub (SF.args (.ref x) (.str name tk) v) ?_)
  refine oEA (Option.bind_eq_some_iff.mp ht) fun attr ha hr => ?_
  have hmm : Looks (model prog w) s.heap (mroOf (.ref C)) cd.mro := (looks_clsIn X hc).andThen .now
  have L3 : Looks (model prog w) s.heap (storeTaker? attr) none := by
    cases attr with
    | none => exact .now
    | some a =>
      refine oEA (Option.map_eq_some_iff.mp hr) fun b hb e => ?_
      refine (looks_takesIn X hb).andThen ?_
      cases b with
      | true => cases e
      | false => exact .now
  rw [osa_eq, refuse_eq]
  refine wpAny_bind (wpAny_bind (I.type.here (wpAny_bind (hmm.here ?_))))
  rw [hm, refuseLoop_ref, refuseLoop_ref, PySem.F.store_Exception.passes]
  refine wpAny_pure (wpAny_bind (I.type.here (wpAny_bind ((looks_findIn X ha).here (wpAny_bind (L3.here ?_))))))
  exact h _
theorem ex_store {A₂ : Around} {E : Value → Shared → Prop} {od od' : Obj} {dx : Addr} {name : Str} {tk : Tok} {v : Value} {pre post : List (Addr × Obj)} {es : List DictEntry} {n : Nat} (F : Fr h₀ L s.heap m) (N : News h₀ L s.heap (pre ++ (dx, od) :: post))
    (hl : (lookIn name od).isSome = true) (h1 : ∀ p ∈ pre, p.1 ≠ dx) (h2 : ∀ p ∈ post, p.1 ≠ dx)
    (e : Obj.putName name (PyData.keyHash w.params name) (.str name s.toks) v od = od') (e' : od'.data = .dict es.toArray n) (hz : es.length ≤ 1000)
    (h : ∀ h', Fr h₀ L h' m → News h₀ L h' (pre ++ (dx, od') :: post) → R (.ok (.ret .none)) { s with heap := h', toks := s.toks + 1 }) :
    wpAny (model prog w) A₂ (Builtin.ObjectAttr.storeInDict dx (.str name tk) name v) (fun fin s' => match fin with | .done f => R (.ok f) s' | .again c' => c'.quiet = true ∧ codeAny (model prog w) A c' R s') E s := by
  obtain ⟨U1, U2⟩ := news_upd (f := Obj.putName name (PyData.keyHash w.params name) (.str name s.toks) v) F N h1 h2 e (by obtain ⟨_, _, dd, _⟩ := od'; cases e'; rfl)
  have D := (N (dx, od) (by simp)).1
  have D' := (U2 (dx, od') (by simp)).1
  unfold Builtin.ObjectAttr.storeInDict Builtin.ObjectAttr.newKeyGuard
  refine wpAny_bind (wpAny_pure (wpAny_bind ?_))
  unfold nsSet
  refine wpAny_bind (wpAny_bind (wpAny_askSetting (wpAny_pure (wpAny_bind (wpAny_mkText (wpAny_bind (wpAny_loadPart D ?_)))))))
  delta lookIn at hl
  cases q : od.data <;> rw [q] at hl <;> try cases hl
  · rename_i es₀ n₀
    delta lookIn.match_1 at hl
    replace hl : Option.isSome (Option.casesOn (motive := fun _ => Option (Option Value)) (es₀.toList.find? (·.key.isStr name)) (if es₀.toList.any (·.refKey) = true then none else some none) fun e => some (some e.val)) = true := hl
    dsimp only
    have c : (!es₀.any (·.key.isStr name) && es₀.any (·.refKey)) = false := by
      rw [← Array.any_toList, ← Array.any_toList]
      cases he : es₀.toList.find? (·.key.isStr name) with
      | some en => rw [List.any_eq_true.mpr ⟨en, List.mem_of_find?_eq_some he, List.find?_some he⟩]; rfl
      | none =>
        rw [he] at hl
        cases z : es₀.toList.any (·.refKey) with
        | true =>
          have hl2 : Option.isSome (if es₀.toList.any (·.refKey) = true then (none : Option (Option Value)) else some none) = true := hl
          rw [z] at hl2
          cases hl2
        | false => rw [Bool.and_false]
    rw [aRefKeyMayBeTheName_at, c]
    refine wpAny_updatePart D ?_
    refine wpAny_bind (wpAny_lookBehind D' (by rw [e']; exact pastItsLine_dict (by rw [List.size_toArray, sizeLine_eq]; walk_at "o")) ?_)
    exact wpAny_pure (h _ U1 U2)
theorem ex_own1 {ox : Obj} {dx : Addr} {name : Str} {nameV v : Value} {b : Bool} {E : Value → Shared → Prop} {Q : Fin → Shared → Prop} (X : K.In s.heap) (hx : s.heap.get? x = some ox) (hcl : ox.cls = .ref C) (hn : notCls ox = true) (hd : ox.dict = some dx) (hc : clsIn K C = some cd) (hh : cd.hasDict = true)
    (h : wpAny (model prog w) A (Builtin.ObjectAttr.storeInDict dx nameV name v) Q E s) : wpAny (model prog w) A (Builtin.ObjectAttr.storeInOwnDict (.ref x) (.ref C) nameV name v b) Q E s := by
  obtain ⟨oc, odi, oda, osl⟩ := ox
  dsimp only at hcl hd
  subst hcl hd
  refine wpAny_bind (wpAny_pure (wpAny_bind (wpAny_bind (wpAny_loadPart hx (wpAny_bind ((looks_clsIn X hc).here ?_))))))
  rw [hh]
  exact wpAny_pure (a := some dx) h
theorem ex_own0 {t₀ : Addr} {name : Str} {nameV v : Value} {b : Bool} {E : Value → Shared → Prop} {Q : Fin → Shared → Prop} (X : K.In s.heap) (hx : s.heap.get? x = some (exT C t₀ none)) (hc : clsIn K C = some cd) (hh : cd.hasDict = true)
    (h : wpAny (model prog w) A (Builtin.ObjectAttr.storeInDict s.heap.objs.size nameV name v) Q E { s with heap := (s.heap.push emptyDict).update x fun o => { o with dict := some s.heap.objs.size } }) :
    wpAny (model prog w) A (Builtin.ObjectAttr.storeInOwnDict (.ref x) (.ref C) nameV name v b) Q E s := by
  refine wpAny_bind (wpAny_pure (wpAny_bind (wpAny_bind (wpAny_loadPart hx (wpAny_bind ((looks_clsIn X hc).here ?_))))))
  rw [hh]
  refine wpAny_bind (wpAny_alloc (wpAny_bind (wpAny_update (o := exT C t₀ none) (Heap.get?_push_of_some _ hx) ?_)))
  exact wpAny_pure (a := some s.heap.objs.size) h
end
end
section
open Sem (wp)
open Builtin Builtin.ObjectAttr
noncomputable abbrev L_RE : List Addr := [52, 51, 39, 38, 36]
noncomputable abbrev cdRE : ClassData := { name := s_ReadError, bases := [.ref 39], mro := .ref 52 :: .ref 39 :: exB, ns := 51, qualname := s_ReadError, hasDict := true, slotNames := [], subclasses := [], abstract := false, collection := none, hasDel := false }
theorem re_cls (P : Params) : clsIn (frag L_RE P) 52 = some cdRE := by kernel_rfl
theorem re_set (P : Params) : findIn (frag L_RE P) (.ref 52) "__setattr__" = some (some (.builtin "object.__setattr__")) := by kernel_rfl
theorem re_init (P : Params) : findIn (frag L_RE P) (.ref 52) "__init__" = some (some (.ref 36)) := by kernel_rfl
theorem re_msg (P : Params) : takerIn (frag L_RE P) 52 s_message = some none := by kernel_rfl
theorem re_plc (P : Params) : takerIn (frag L_RE P) 52 s_place = some none := by kernel_rfl
section
variable {c : Cx} {sc : Scope} {m : Lc} {μ ι ρ : Led} {k : Nat}
theorem W.setE0 {e t : Addr} {nm : Str} {u : Value} {Q : Po Unit} (O : c.Ok sc k) (ht : ∀ P, takerIn (frag L_RE P) 52 nm = some none) (q : ∀ dx o, DObj o [(nm, u)] → Q () m ((dx, o) :: (e, exT 52 t (some dx)) :: ρ) ι) :
    c.W (setAttr (.ref e) nm u) Q m ((e, exT 52 t none) :: ρ) ι := .mk fun hp tk S => by
  refine oEA S.F fun mf F hf => ?_
  have X := kin_frag L_RE _ _ (S.inK O)
  have hx := (S.N (e, exT 52 t none) (.head _)).1
  have I : InstAt hp e (exT 52 t none) 52 none := ⟨hx, rfl, rfl, trivial⟩
  have ne := Apart.ne (μ₁ := []) S.D
  have lt : ∀ p ∈ (e, exT 52 t none) :: (ρ ++ ι), p.1 < hp.objs.size := fun p hp => Heap.lt_size (S.N p hp).1
  have F1 := F.push emptyDict
  have N1 := S.N.push F emptyDict
  obtain ⟨F2, N2⟩ := news_upd (pre := [(hp.objs.size, emptyDict)]) (post := ρ ++ ι) (f := fun o => { o with dict := some hp.objs.size }) F1 N1 (fun p hp' => by
    rcases List.mem_cons.mp hp' with rfl | hp'
    · exact Nat.ne_of_gt (lt _ (.head _))
    · cases hp') (fun p hp' => ne.2 p hp') (o' := exT 52 t (some hp.objs.size)) rfl rfl
  refine oEEAAA DObj.empty fun es n e0 f h1 h2 => ?_
  simp only [List.length_nil] at h1
  have hlen := putL_len nm (PyData.keyHash c.w.params nm) (.str nm (tk + 1)) u es
  have hz : (putL nm (PyData.keyHash c.w.params nm) (.str nm (tk + 1)) u es).length ≤ 1000 := by walk_at "o"
  have key : ∀ R : Result → Shared → Prop, (∀ h', Fr c.g c.L h' mf → News c.g c.L h' ((hp.objs.size, dictOf (putL nm (PyData.keyHash c.w.params nm) (.str nm (tk + 1)) u es) (putN nm es n)) :: (e, exT 52 t (some hp.objs.size)) :: (ρ ++ ι)) → R (.ok (.ret .none)) (c.sh h' (tk + 2))) →
      codeAny (model c.prog c.w) c.A (.call (.builtin "object.__setattr__") ⟨[.ref e, .str nm tk, u], []⟩) R (c.sh hp (tk + 1)) := fun R hR => ex_osa (s := c.sh hp (tk + 1)) X I (re_cls _) rfl (ht _) fun b => ex_own0 (s := c.sh hp (tk + 1)) X hx (re_cls _) rfl <|
    ex_store (s := c.sh _ (tk + 1)) (pre := []) (post := (e, exT 52 t (some hp.objs.size)) :: (ρ ++ ι)) (od := emptyDict) F2 N2 rfl (fun p hp' => by cases hp') (fun p hp' => by
      rcases List.mem_cons.mp hp' with rfl | hp'
      · exact Nat.ne_of_lt (lt (e, exT 52 t none) (.head _))
      · exact Nat.ne_of_lt (lt _ (.tail _ hp'))) ((congrArg _ e0).trans (putName_dict ..)) rfl hz fun h' F' N' => hR h' F' N'
  refine set_plain X I (re_set _) (key _ fun h' F' N' => ?_)
  refine ⟨h', tk + 2, m, _, ι, rfl, ⟨⟨mf, F', hf⟩, N', ?_⟩, q hp.objs.size _ ⟨_, _, rfl, f.put nm _ _ u, ?_, ?_⟩⟩
  · have a := Apart.newM (μ₁ := []) (p := (hp.objs.size, emptyDict)) S.D fun q hq => lt q hq
    exact Apart.set (μ₁ := []) (Apart.set (μ₁ := [(hp.objs.size, emptyDict)]) (o' := exT 52 t (some hp.objs.size)) a)
  · simp only [List.length_cons]; exact Nat.le_trans hlen (by walk_at "o")
  · simp
theorem W.setE1 {e t dx : Addr} {o : Obj} {fs : Lc} {nm : Str} {u : Value} {Q : Po Unit} (O : c.Ok sc k) (d : DObj o fs) (hl : fs.length < 900) (ht : ∀ P, takerIn (frag L_RE P) 52 nm = some none) (q : ∀ o', DObj o' ((nm, u) :: fs) → Q () m ((dx, o') :: (e, exT 52 t (some dx)) :: ρ) ι) :
    c.W (setAttr (.ref e) nm u) Q m ((dx, o) :: (e, exT 52 t (some dx)) :: ρ) ι := .mk fun hp tk S => by
  refine oEA S.F fun mf F hf => ?_
  have X := kin_frag L_RE _ _ (S.inK O)
  have hx := (S.N (e, exT 52 t (some dx)) (.tail _ (.head _))).1
  have hdx := (S.N (dx, o) (.head _)).1
  have ne := Apart.ne (μ₁ := []) S.D
  refine oEEAAA d ?_; clear d; intro es n zo2 f h1 h2; obtain rfl := zo2
  have I : InstAt hp e (exT 52 t (some dx)) 52 (some (dictOf es n)) := ⟨hx, rfl, rfl, hdx⟩
  have hlen := putL_len nm (PyData.keyHash c.w.params nm) (.str nm (tk + 1)) u es
  have hz : (putL nm (PyData.keyHash c.w.params nm) (.str nm (tk + 1)) u es).length ≤ 1000 := by walk_at "o"
  have key : ∀ R : Result → Shared → Prop, (∀ h', Fr c.g c.L h' mf → News c.g c.L h' ((dx, dictOf (putL nm (PyData.keyHash c.w.params nm) (.str nm (tk + 1)) u es) (putN nm es n)) :: (e, exT 52 t (some dx)) :: (ρ ++ ι)) → R (.ok (.ret .none)) (c.sh h' (tk + 2))) →
      codeAny (model c.prog c.w) c.A (.call (.builtin "object.__setattr__") ⟨[.ref e, .str nm tk, u], []⟩) R (c.sh hp (tk + 1)) := fun R hR => ex_osa (s := c.sh hp (tk + 1)) X I (re_cls _) rfl (ht _) fun b => ex_own1 (s := c.sh hp (tk + 1)) X hx rfl rfl rfl (re_cls _) rfl <|
    ex_store (s := c.sh _ (tk + 1)) (pre := []) (post := (e, exT 52 t (some dx)) :: (ρ ++ ι)) (od := dictOf es n) F S.N (by show (getL nm es).isSome = true; rw [f nm]; rfl) (fun p hp' => by cases hp') (fun p hp' => ne.2 p hp') (putName_dict ..) rfl hz fun h' F' N' => hR h' F' N'
  refine set_plain X I (re_set _) (key _ fun h' F' N' => ?_)
  exact ⟨h', tk + 2, m, _, ι, rfl, ⟨⟨mf, F', hf⟩, N', Apart.set (μ₁ := []) S.D⟩, q _ ⟨_, _, rfl, f.put nm _ _ u, by simp only [List.length_cons]; exact Nat.le_trans hlen (by walk_at "o"), by simp only [List.length_cons]; walk_at "o"⟩⟩
end
end
open Sem (wp)
theorem re_look (P : Params) : look P 52 = some (excClassObj s_ReadError s_ReadError 52 51 [.ref 39] (.ref 39 :: exB) true [] [] false none none (some (.ref 43)) none (some (.str s_ReadError 227)) (some (.str s_ReadError 235)) (some (.bool true)) "Exception.__new__") := by kernel_rfl
section
variable {c : Cx} {sc : Scope} {m : Lc} {μ ι ρ : Led} {k : Nat}
theorem W.exGet {pl : Sem Bool} {Q : Po (Value × List Value)} (O : c.Ok sc k) (q : Q (.builtin "Exception.__init__", []) m μ ι) : c.W (getMethod (.type "Exception") "__init__" pl) Q m μ ι := .mk fun hp tk S => by
  refine oEA S.F fun mf F hf => ?_
  exact method_type (v := .builtin "Exception.__init__") F (kin_frag L_RE _ _ O.inK) (by kernel_rfl) (by kernel_rfl) (by kernel_rfl) rfl ⟨hp, tk + 1, m, μ, ι, rfl, S, q⟩
theorem W.exInit {e t : Addr} {u : Value} {Q : Po Value} (O : c.Ok sc k) (q : ∀ t', Q .none m ((e, exT 52 t' none) :: (t', tupOf #[u]) :: ρ) ι) :
    c.W (PySem.call (.builtin "Exception.__init__") [.ref e, u]) Q m ((e, exT 52 t none) :: ρ) ι := .mk fun hp tk S => by
  refine oEA S.F fun mf F hf => ?_
  have hC := S.inK O _ _ (re_look c.w.params)
  have hx := (S.N (e, exT 52 t none) (.head _)).1
  have ne := Apart.ne (μ₁ := []) S.D
  have lt : ∀ p ∈ (e, exT 52 t none) :: (ρ ++ ι), p.1 < hp.objs.size := fun p hp => Heap.lt_size (S.N p hp).1
  have F1 := F.push (tupOf #[u])
  have N1 := S.N.push F (tupOf #[u])
  obtain ⟨F2, N2⟩ := news_upd (pre := [(hp.objs.size, tupOf #[u])]) (post := ρ ++ ι) (f := Obj.mapFields (·.setIfInBounds 0 (.ref hp.objs.size))) F1 N1 (fun p hp' => by
    rcases List.mem_cons.mp hp' with rfl | hp'
    · exact Nat.ne_of_gt (lt (e, exT 52 t none) (.head _))
    · cases hp') (fun p hp' => ne.2 p hp') (o' := exT 52 hp.objs.size none) rfl rfl
  refine wpAny_call (ex_init (rest := [u]) hC hx ?_ (Nat.le_of_ble_eq_true rfl))
  refine ⟨_, tk, m, _, _, rfl, ⟨⟨mf, F2, hf⟩, fun p hp' => N2 p ?_, ?_⟩, q hp.objs.size⟩
  · simp only [List.mem_append, List.mem_cons, List.cons_append, List.nil_append] at hp' ⊢
    rcases hp' with a | a | a | a <;> simp [a]
  · refine Apart.insert (own := [(e, exT 52 hp.objs.size none)]) (Apart.set (μ₁ := []) S.D) fun q hq => Nat.ne_of_lt ?_
    simp only [List.mem_append, List.mem_cons, List.cons_append, List.nil_append] at hq
    rcases hq with rfl | hq | hq
    · exact lt (e, exT 52 t none) (.head _)
    · exact lt q (.tail _ (List.mem_append.mpr (.inl hq)))
    · exact lt q (.tail _ (List.mem_append.mpr (.inr hq)))
end
theorem initRE {e t : Addr} {v1 v2 : Value} {ι : Led} : Spec 3 36 [.ref e, v1, v2] [(e, exT 52 t none)] ι (fun r μ' ι' => r = .none ∧ ∃ t' dx o, μ' = [(dx, o), (e, exT 52 t' (some dx)), (t', tupOf #[v1])]) := by
  refine' Spec.intro (k := 2) (loc := [(s_place, v2), (s_message, v1), (s_self, .ref e)]) hd.z36 hd.z35 ?ho ?hob ?hco' ?hcd ?hbind ?hloc ?hco ?hgen ?hk ?hcell ?hb
  walk_at "M.fnD"
  (case hbind => (intro P s XX; exact bindsD XX (by kernel_rfl : _ = some (hd.z29 P)) rfl rfl (by kernel_rfl!)))
  intro c ρ O
  refine W.expr ?_
  refine W.mcall (pl := _) ?_
  refine W.globB O ⟨_, kin_glob, fun P => by kernel_rfl⟩ (v := .type "Exception") (by kernel_rfl) (by decide) ?_
  refine W.exGet O ?_
  walk_at "rw"
  refine W.exInit O fun t' => ?_
  walk_at "rw"
  refine W.setE0 O re_msg fun dx o d => ?_
  walk_at "rw"
  refine W.setE1 O d (by simp) re_plc fun o' d' => ?_
  walk_at "rw"
  exact Ends.none (fl := Flow.next) (μ := [(dx, o'), (e, exT 52 t' (some dx)), (t', tupOf #[v1])]) (ρ := ρ) rfl Sub.refl ⟨rfl, t', dx, o', rfl⟩
theorem re_fn (P : Params) : look P 36 = some (hd.z36 P) := by kernel_rfl
section
variable {c : Cx} {sc : Scope} {m : Lc} {μ ι ρ : Led} {k : Nat}
theorem W.newRE {v1 v2 : Value} {Q : Po Value} (O : c.Ok sc k) (hk : 5 ≤ k) (q : ∀ e t dx ι', Sub ι ι' → Q (.ref e) m ((e, exT 52 t (some dx)) :: (t, tupOf #[v1]) :: μ) ι') : c.W (PySem.call (.ref 52) [v1, v2]) Q m μ ι := .mk fun hp tk S => by
  refine oEA S.F fun mf F hf => ?_
  have hC := S.inK O _ _ (re_look c.w.params)
  have hi : Looks (model c.prog c.w) hp (typeLookup (.ref 52) "__init__") (some (.ref 36)) := looks_findIn (kin_frag L_RE _ _ (S.inK O)) (re_init _)
  have hfI := S.inK O _ _ (re_fn c.w.params)
  refine ex_call hC hi hfI rfl (fun h' e M => ?_) (Nat.le_of_ble_eq_true rfl)
  refine oEEAA (under_make c.A 52 [v1, v2]) fun d u eA hd hu => ?_
  rw [eA]
  let c' : Cx := { c with A := { c.A with depth := c.A.depth + d, units := c.A.units + u }, E := bad }
  have O' : c'.Ok sc 3 := ⟨O.below, O.inK, O.top, O.frames, O.handled, O.kind, by show c.A.depth + d + 3 < _; have := O.depth; walk_at "o", by show c.A.units + u + 8 * 3 + 64 < _; have := O.units; walk_at "o", PassesOwn.never⟩
  refine oEAA M.there fun t he htn ht => ?_
  have off : ∀ p ∈ μ ++ ι, p.1 ≠ e := fun p hp' z => by have := (S.N p hp').1; rw [z, M.new] at this; cases this
  have S' : StF c' mf ([(e, exT 52 t none)] ++ μ) ι h' := ⟨⟨F.ns.keeps M.keeps, fun b o z => M.keeps b o (F.keep b o z), F.above⟩, fun p hp' => by
    rcases List.mem_cons.mp hp' with rfl | hp'
    · refine ⟨he, fun z => ?_, ?_⟩
      · refine oEEEA F.ns fun oL _ _ hL _ => ?_
        have := M.new
        rw [show e = c.L from z, hL] at this; cases this
      · show c.g.get? e = none
        cases z : c.g.get? e with
        | none => rfl
        | some o => have := F.keep _ _ z; rw [M.new] at this; cases this
    · exact ⟨M.keeps _ _ (S.N p hp').1, (S.N p hp').2⟩, ?_⟩
  · refine wpAny_call (initRE.run c' sc O' mf μ _ h' tk S' fun r h'' tk' μ' ι' S'' hι R => ?_)
    refine oAEEE R ?_; clear R; intro zo0 t' dx o zo4; obtain rfl := zo0; obtain rfl := zo4
    refine ⟨rfl, h'', tk', m, (e, exT 52 t' (some dx)) :: (t', tupOf #[v1]) :: μ, ι', rfl, ⟨⟨mf, S''.F, hf⟩, fun p hp' => S''.N p ?_, ?_⟩, q e t' dx ι' hι⟩
    · exact .tail _ hp'
    · exact Apart.tail S''.D
  · exact Apart.cons S.D fun q hq => off q hq
theorem W.raise_ {e : Expr} {pos : Pos} {rest : List Stmt} {Q : Po Flow} (O : c.Ok sc k)
    (h : c.W (eval e (c.env sc)) (fun v m' μ' ι' => ∃ x t dx, v = .ref x ∧ (x, exT 52 t (some dx)) ∈ μ' ∧ ∀ hp tk, St c m' μ' ι' hp → c.E v (c.sh hp tk)) m μ ι) : c.W (execs (.Raise (some e) none pos :: rest) (c.env sc)) Q m μ ι := W.execs_cons <| .mk fun hp tk S => by
  rw [arm_exec_Raise]
  refine wpAny_bind (wpAny_standAt ?_)
  have hcB : (Value.ref 52 :: .ref 39 :: exB).contains (.type "BaseException") = true := by decide +kernel
  show wpAny _ _ (raiseStmt _ (some (eval e (c.env sc) >>= fun v => standAt pos >>= fun _ => pure v)) none) _ _ _
  unfold raiseStmt
  refine wpAny_bind (wpAny_bind (wpAny_mono (h.run hp tk S) (fun v s₁ h₁ => ?_) fun _ _ x => x))
  refine oEEEEEAAEE h₁ ?_; clear h₁; intro h' tk' m' μ' ι' zo5 S' x t zz; refine oEAA zz ?_; clear zz; intro dx zo10 hx hE; obtain rfl := zo5; obtain rfl := zo10
  refine wpAny_bind (wpAny_standAt (wpAny_pure ?_))
  have he := (S'.N _ (List.mem_append.mpr (.inl hx))).1
  have hC := S'.inK O _ _ (re_look c.w.params)
  repeat (first | with_reducible refine wpAny_loadPart_at he ?_ | with_reducible refine wpAny_loadPart_at hC ?_ | (with_reducible refine wpAny_isSubtype_exc hC ?_; rw [hcB]) | wp_step)
  exact wpAny_raiseNew_none O.handled (hE _ _ S')
end
open Sem (wp)
def Made (n : Led) (c : Cx) (v : Value) (s' : Shared) : Prop := ∃ e t dx msg m μ ι h tk, v = .ref e ∧ s' = c.sh h tk ∧ St c m ((e, exT 52 t (some dx)) :: (t, tupOf #[msg]) :: μ) ι h ∧ Sub n (μ ++ ι)
def Pass (ι : Led) (c : Cx) (sc : Scope) (v : Value) (s' : Shared) : Prop := ∃ e t vs G mf h' tk, v = .ref e ∧ s' = c.sh h' tk ∧ Fr c.g c.L G mf ∧ RaisedS c.base G (c.env sc :: c.outer) e (.ref 52) t vs ι h' ∧ G.UpToSlots h'
theorem RaisedS.less {base G : Heap} {l : List Env} {e : Addr} {cls : Value} {t : Addr} {vs : List Value} {n n' : Led} {h : Heap} (R : RaisedS base G l e cls t vs n' h) (s : Sub n n') : RaisedS base G l e cls t vs n h := by
  obtain ⟨⟨B, hB, hBG, hl, hfl, hnew⟩, htup⟩ := R; exact ⟨⟨B, hB, hBG, fun q hq => hl q (s q hq), hfl, hnew⟩, htup⟩
section
variable {c : Cx} {sc : Scope} {m : Lc} {μ ι ρ : Led} {k : Nat}
theorem leaves {v : Value} {s' : Shared} {Q : Unit → Shared → Prop} {E : Value → Shared → Prop} (O : c.Ok sc k) (h : Made ι c v s' ∨ Pass ι c sc v s')
    (hQ : ∀ e t vs h' tk, v = .ref e → RaisedS c.base c.g c.outer e (.ref 52) t vs ι h' → c.g.UpToSlots h' → Q () (c.sh h' tk)) : wpAny (model c.prog c.w) c.A (leaving (c.env sc) v) Q E s' := by
  have K := O.below
  rcases h with ⟨e, t, dx, msg, m, μ, ι', h, tk, rfl, rfl, S, hs⟩ | ⟨e, t, vs, G, mf, h', tk, rfl, rfl, F, R, hsm⟩
  · refine oEA S.F fun mf F _ => ?_
    have N : ∀ p ∈ (e, exT 52 t (some dx)) :: (t, tupOf #[msg]) :: (μ ++ ι'), h.get? p.1 = some p.2 ∧ p.1 ≠ c.L ∧ c.g.get? p.1 = none := S.N
    have Ne := N _ (.head _)
    have Nt := N _ (.tail _ (.head _))
    have De := (Apart.ne (μ₁ := []) S.D).2
    have Dt := (Apart.ne (μ₁ := []) (Apart.tail S.D)).2
    have K' := K.push (name := c.qual) (scope := sc) (a := c.f) (cd := c.cdv) F O.kind
    have hin : ∀ env ∈ (c.env sc :: c.outer), ∀ b, env.frame = some b → b ∈ e :: t :: (c.env sc :: c.outer).filterMap (·.frame) := fun env he b hb => .tail _ (.tail _ (List.mem_filterMap.mpr ⟨env, he, hb⟩))
    have nb : ∀ b, c.g.get? b = none → c.base.get? b = none := fun b q => fresh_of_stays K.stays q
    have st : c.base.StaysIn (hideAll h (e :: t :: (c.env sc :: c.outer).filterMap (·.frame))) := fun b o q => hideAll_get _ (K'.stays b o q) fun hm => by
      rcases List.mem_cons.mp hm with rfl | hm
      · rw [nb _ Ne.2.2] at q; cases q
      rcases List.mem_cons.mp hm with rfl | hm
      · rw [nb _ Nt.2.2] at q; cases q
      rw [(K'.frames.mem hm).1] at q; cases q
    have sg : ∀ b o, c.g.get? b = some o → b ∉ c.outer.filterMap (·.frame) → (hideAll h (e :: t :: (c.env sc :: c.outer).filterMap (·.frame))).get? b = some o := fun b o q nm => hideAll_get _ (F.keep b o q) fun hm => by
      rcases List.mem_cons.mp hm with rfl | hm
      · rw [Ne.2.2] at q; cases q
      rcases List.mem_cons.mp hm with rfl | hm
      · rw [Nt.2.2] at q; cases q
      rcases kts_mem hm with z | z
      · rw [z, kts_self F] at q; cases q
      · exact nm z
    have hl : ∀ q ∈ ι, (hideAll h (e :: t :: (c.env sc :: c.outer).filterMap (·.frame))).get? q.1 = some q.2 ∧ c.g.get? q.1 = none ∧ c.base.get? q.1 = none := fun q hq => by
      have Nq := N q (.tail _ (.tail _ (hs q hq)))
      refine ⟨hideAll_get _ Nq.1 fun hm => ?_, Nq.2.2, nb _ Nq.2.2⟩
      rcases List.mem_cons.mp hm with z | hm
      · exact De q (.tail _ (hs q hq)) z
      rcases List.mem_cons.mp hm with z | hm
      · exact Dt q (hs q hq) z
      rcases kts_mem hm with z | z
      · exact Nq.2.1 z
      · refine oEA ((K.frames.mem z).2) fun o ho _ => ?_
        rw [Nq.2.2] at ho; cases ho
    refine wpAny_leaving_firstW (a0 := .ref t) (base := hideAll h (e :: t :: (c.env sc :: c.outer).filterMap (·.frame))) O.frames (funFrames_hide K'.frames hin) rfl Ne.1 (fun b o q => of_hideAll _ q) (hideAll_none _ (.head _)) rfl rfl rfl fun h' hL => ?_
    refine oAAA hL ?_; clear hL; intro k1 zo1 k3 k4; refine oAA zo1 ?_; clear zo1; intro _ _ k2
    exact hQ e t [msg] h' tk rfl ⟨⟨_, st, sg, hl, ⟨k1, hideAll_none _ (.head _), k2, k3⟩, hideAll_none _ (.tail _ (.head _))⟩, Heap.TupAt.of_slots ⟨_, _, Nt.1, rfl, rfl⟩ k4⟩ ((Heap.UpToSlots.of_keeps F.keep).trans k4)
  · obtain ⟨⟨B, hB, hBG, hl, hfl, hnew⟩, htup⟩ := R
    refine wpAny_leaves_onW O.frames rfl hfl fun h₂ x1 x2 => ?_
    exact hQ e t vs h₂ tk rfl ⟨⟨B, hB, fun b o q nm => hBG b o (F.keep b o q) (fun hm => by
      rcases kts_mem hm with z | z
      · rw [z, kts_self F] at q; cases q
      · exact nm z), fun q hq => ⟨(hl q hq).1, kts_none F.keep (hl q hq).2.1, (hl q hq).2.2⟩, x1, hnew⟩, htup.of_slots x2⟩ ((Heap.UpToSlots.of_keeps F.keep).trans (hsm.trans x2))
end
structure XSpec (k : Nat) (f : Addr) (vs : List Value) (μ ι : Led) : Prop where
  run : ∀ (c : Cx) (sc : Scope), c.Ok sc k → ∀ (mf : Str → Option Value) (ρ : Led) (Q : Result → Shared → Prop) (h : Heap) (tk : Nat), StF c mf (μ ++ ρ) ι h →
    (∀ e t vs h' tk' G, Fr c.g c.L G mf → RaisedS c.base G (c.env sc :: c.outer) e (.ref 52) t vs (ρ ++ ι) h' → G.UpToSlots h' → Q (.error (.ref e)) (c.sh h' tk')) →
    codeAny (model c.prog c.w) c.A (.call (.ref f) ⟨vs, []⟩) Q (c.sh h tk)
theorem XSpec.intro {k : Nat} {f : Addr} {vs : List Value} {μ ι : Led} {name qual : Str} {params : Arguments} {body : List Stmt} {sc : Scope} {dV kV doc pm ct oc : Value} {cd : Addr} {an od : Option Addr} {osl : Array (Option Value)} {loc : Lc}
    (ob co : Params → Obj) (ho : ∀ P, look P f = some (ob P)) (hob : ∀ P, ob P = ⟨oc, od, .func (fnOf name qual params body sc dV kV doc pm (an := an) (cdv := .ref cd) ct), osl⟩) (hco' : ∀ P, look P cd = some (co P)) (hcd : ∀ P, codeIn [(cd, co P)] (.ref cd) qual = true)
    (hbind : ∀ (P : Params) (s : Shared), TH P s.heap → BindsTo s (fnOf name qual params body sc dV kV doc pm an (.ref cd) ct) ⟨vs, []⟩ loc.reverse)
    (hloc : (loc.reverse.all fun x => decide (sc.names.lookup x.1 = some .local)) = true)
    (hco : sc.isCoroutine = false) (hgen : sc.isGenerator = false) (hk : sc.kind = .function) (hcell : (sc.names.all fun x => decide (x.2 ≠ .cell)) = true)
    (hb : ∀ (c : Cx) (ρ : Led), c.Ok sc k → (∀ v s', Made (ρ ++ ι) c v s' ∨ Pass (ρ ++ ι) c sc v s' → c.E v s') → c.W (execs body (c.env sc)) (fun _ _ _ _ => False) loc (μ ++ ρ) ι) : XSpec (k + 1) f vs μ ι := by
  refine .mk fun c sc₀ O mf ρ Q h tk S hQ => ?_
  obtain ⟨F, N, D⟩ := S
  have XK : Frag.In [(f, ob c.w.params), (cd, co c.w.params)] c.g := Kin.cons (K := fun P => [(cd, co P)]) ho (Kin.cons hco' Kin.nil) _ _ O.inK
  have hcd' := code2 (hcd c.w.params) (a := ob c.w.params) (f := f) fun q => by subst q; exact Option.some.inj ((ho _).symm.trans (hco' _))
  refine code_def (K := [(f, ob c.w.params), (cd, co c.w.params)]) (cdv := .ref cd) (env := c.env sc₀) (outer := c.outer) (A₀ := c.A₀) (base := c.base) O.below F XK N O.top O.frames rfl O.kind (by simp only [List.lookup, beq_self_eq_true]; exact congrArg some (hob _)) hcd' (by have := O.depth; walk_at "o") (hbind c.w.params _ (TH.keeps F.keep O.inK)) (fun y hy => of_decide_eq_true (List.all_eq_true.mp hloc y hy)) (fun g L' h₁ FG F' N' B' X' T' => ?_) hco hgen hk (fun x hx => of_decide_eq_true (List.all_eq_true.mp hcell x hx))
  let c' : Cx := { c with A := c.A.deeper (envOf qual sc L' f (.ref cd)), A₀ := c.A, base := c.base, g := g, outer := c.env sc₀ :: c.outer, qual := qual, L := L', f := f, cdv := .ref cd, E := fun v s' => wpAny (model c.prog c.w) (c.A.deeper (envOf qual sc L' f (.ref cd))) (leaving (envOf qual sc L' f (.ref cd)) v) (fun _ s'' => Q (.error v) s'') (fun e' s'' => Q (.error e') s'') s' }
  have O' : c'.Ok sc k := ⟨B', TH.keeps FG.keep O.inK, T', by show (c.A.deeper _).frames = _; rw [Around.frames_deeper O.frames], O.handled, hk, by show c.A.depth + 1 + k < _; have := O.depth; walk_at "o", by show c.A.units + 3 + 8 * k + 64 < _; have := O.units; walk_at "o", PassesOwn.leaving⟩
  have S' : St c' loc (μ ++ ρ) ι h₁ := ⟨⟨_, F', fun x v a => by rw [List.reverse_reverse]; exact a.lookup⟩, N', D⟩
  refine wpAny_mono ((hb c' ρ O' fun v s' hm => leaves O' hm fun e t vs h' tk hv R U => ?_).run h₁ _ S') (fun fl s' x => ?_) fun _ _ x => x
  · subst hv; exact hQ e t vs h' tk g FG R U
  · refine oEEEEEAA x ?_; clear x; intro _ _ _ _ _ _ _ q; exact q.elim
section
variable {c : Cx} {sc : Scope} {m : Lc} {μ ι ρ : Led} {k : Nat}
theorem W.callX {f : Addr} {vs : List Value} {j : Nat} {Q : Po Value} {n : Led} (s : XSpec j f vs μ ι) (O : c.Ok sc k) (h : j ≤ k) (hs : Sub n (ρ ++ ι)) (hE : ∀ v s', Pass n c sc v s' → c.E v s') : c.W (PySem.call (.ref f) vs) Q m (μ ++ ρ) ι := .mk fun hp tk S =>
  let ⟨mf, F, hm⟩ := S.F
  wpAny_call (s.run c sc (O.less h) mf ρ _ hp tk ⟨F, S.N, S.D⟩ fun e t vs h' tk' G FG R U => hE _ _ ⟨e, t, vs, G, mf, h', tk', rfl, rfl, FG, RaisedS.less R hs, U⟩)
end
open Sem (wp)
abbrev Cx.fs (c : Cx) : List Addr := c.outer.filterMap (·.frame)
abbrev Cx.turn (c : Cx) (g : Heap) : Cx := { c with g := g }
structure Cx.V (c : Cx) : Prop where
  inB : TH c.w.params c.base
  topB : Top c.p c.loose c.mean c.mg c.mb c.base
  dicts : KtsDicts c.fs c.g
def Cx.U (c : Cx) {α : Type} (t : Sem α) (P : α → Shared → Prop) (m : Lc) (μ ι : Led) : Prop := ∀ h tk, St c m μ ι h → wpAny (model c.prog c.w) c.A t P c.E (c.sh h tk)
def EndT (c : Cx) (n : Led) (R : Value → Prop) (fl : Flow) (s' : Shared) : Prop := ∃ h' tk' g' mf', R (retOf fl) ∧ s' = c.sh h' tk' ∧ KtsTurn c.fs c.g g' ∧ Fr g' c.L h' mf' ∧ News g' c.L h' n
structure TSpec (k : Nat) (f : Addr) (vs : List Value) (ι : Led) (R : Value → Prop) (P : List Env → Prop) : Prop where
  run : ∀ (c : Cx) (sc : Scope), c.Ok sc k → c.V → P c.outer → ∀ (mf : Str → Option Value) (ρ : Led) (Q : Result → Shared → Prop) (h : Heap) (tk : Nat), StF c mf ρ ι h →
    (∀ r h' tk' g', R r → KtsTurn c.fs c.g g' → Below c.A₀ c.base c.outer g' → (c.turn g').V → StF (c.turn g') mf ρ ι h' → Q (.ok (.ret r)) (c.sh h' tk')) →
    codeAny (model c.prog c.w) c.A (.call (.ref f) ⟨vs, []⟩) Q (c.sh h tk)
section
variable {c : Cx} {sc : Scope} {m : Lc} {μ ι ρ : Led} {k : Nat}
theorem Cx.Ok.turn {g' : Heap} (O : c.Ok sc k) (V : c.V) (B : Below c.A₀ c.base c.outer g') : (c.turn g').Ok sc k := ⟨B, TH.keeps B.stays V.inB, V.topB.keeps B.stays, O.frames, O.handled, O.kind, O.depth, O.units, O.pass⟩
theorem execs_app (env : Env) (rest : List Stmt) : ∀ ss : List Stmt, execs (ss ++ rest) env = (do match ← execs ss env with | .next => execs rest env | f => pure f)
  | [] => by rw [List.nil_append, execs_nil, pure_bind]
  | st :: ss => by
    rw [List.cons_append, execs_cons, execs_cons, bind_assoc]
    congr 1; funext f
    cases f
    case next => exact execs_app env rest ss
    all_goals simp only [pure_bind]
theorem U.app {ss rest : List Stmt} {P : Flow → Shared → Prop} (h : c.W (execs ss (c.env sc)) (fun fl m' μ' ι' => fl = .next ∧ c.U (execs rest (c.env sc)) P m' μ' ι') m μ ι) : c.U (execs (ss ++ rest) (c.env sc)) P m μ ι := fun hp tk S => by
  rw [execs_app]
  refine wpAny_bind (wpAny_mono (h.run hp tk S) (fun fl s' x => ?_) fun _ _ x => x)
  refine oEEEEEAAA x ?_; clear x; intro h' tk' m' μ' ι' zo5 S' zo7 u; obtain rfl := zo5; obtain rfl := zo7
  exact u h' tk' S'
theorem U.cons {st : Stmt} {rest : List Stmt} {P : Flow → Shared → Prop} (h : c.U (exec st (c.env sc)) (fun f s' => match f with | .next => wpAny (model c.prog c.w) c.A (execs rest (c.env sc)) P c.E s' | f => P f s') m μ ι) : c.U (execs (st :: rest) (c.env sc)) P m μ ι := fun hp tk S => wpAny_execs_cons (h hp tk S)
noncomputable abbrev L_KF : List Addr := [3, 52, 51, 39, 38]
theorem kf_glob (P : Params) : nsIn (frag L_KF P) mainGlobals s_ReadError = some (some (.ref 52)) := by kernel_rfl
theorem kf_base (P : Params) : ktsIn (frag L_KF P) 52 "BaseException" = true := by kernel_rfl
theorem U.tryN {n : Led} {body rest : List Stmt} {np cp rp hpos pos : Pos} {k' : Nat} {P : Flow → Shared → Prop} (O : c.Ok sc k) (V : c.V) (hA : c.A = c.A₀.deeper (c.env sc)) (hE : c.E = bad)
    (hb : ∀ E' : Value → Shared → Prop, ({ c with E := E' } : Cx).Ok sc k → (∀ v s', Pass n c sc v s' → E' v s') → ({ c with E := E' } : Cx).W (execs body (({ c with E := E' } : Cx).env sc)) (fun _ _ _ _ => False) m μ ι)
    (hP : ∀ h' tk' g' mf', KtsTurn c.fs c.g g' → Fr g' c.L h' mf' → News g' c.L h' n → P (.ret .none) (c.sh h' tk'))
    (hx : sc.names.lookup s_ReadError = some .globalImplicit := by kernel_rfl) :
    c.U (execs (.Try body [.ExceptHandler (some (.Name s_ReadError np)) none [.Return (some (.Constant .none k' cp)) rp] hpos] [] [] pos :: rest) (c.env sc)) P m μ ι := U.cons fun hp tk S => by
  refine wpAny_Try_except ?_
  let E' : Value → Shared → Prop := fun e s₁ => wpAny (model c.prog c.w) c.A (noteFrame e (c.env sc)) (fun _ s₂ => wpAny (model c.prog c.w) c.A (setFlight e none) (fun _ s₃ => wpAny (model c.prog c.w) c.A (handleBy e (c.env sc) [.ExceptHandler (some (.Name s_ReadError np)) none [.Return (some (.Constant .none k' cp)) rp] hpos])
    (fun f s' => match f with | .next => wpAny (model c.prog c.w) c.A (execs rest (c.env sc)) P c.E s' | f => P f s') c.E s₃) c.E s₂) c.E s₁
  have O' : ({ c with E := E' } : Cx).Ok sc k := O.withE PassesOwn.looking
  refine wpAny_mono ((hb E' O' fun v s' q => ?_).run hp tk S.withE) (fun fl s' x => ?_) fun _ _ x => x
  · refine oEEEEEEEAA q ?_; clear q; intro e t vs G mf h' tk' zo7 zo8 zz; refine oAA zz ?_; clear zz; intro F R U; obtain rfl := zo7; obtain rfl := zo8
    have z := caught_SO0 (prog := c.prog) (w := c.w) (A₀ := c.A₀) (name := c.qual) (scope := sc) (L := c.L) (a := c.f) (cd := c.cdv) (s' := c.sh h' tk') (x := s_ReadError) (np := np) (pos := hpos) (b₀ := .Return (some (.Constant .none k' cp)) rp) (suite := []) (rest := []) (g₀ := c.g) (E := c.E)
      (Q := fun f s' => match f with | .next => wpAny (model c.prog c.w) c.A (execs rest (c.env sc)) P c.E s' | f => P f s') R F O.below U (kin_frag L_KF _ _ V.inB) V.topB V.dicts .refl (kf_glob _) (kf_base _)
      (fun h₂ g' news₂ T F' _ _ N' B' _ _ _ => wpAny_execs_cons (wpAny_Return_some (wpAny_Constant_none (hP h₂ tk' g' mf T F' N')))) O.kind hx (by kernel_rfl) (by rw [hE]; exact PassesOwnAt.never)
    have hA' : c.A₀.deeper (envOf c.qual sc c.L c.f c.cdv) = c.A := hA.symm
    rw [hA'] at z
    exact z
  · refine oEEEEEAA x ?_; clear x; intro _ _ _ _ _ _ _ q; exact q.elim
end
theorem TSpec.intro {k : Nat} {f : Addr} {vs : List Value} {ι : Led} {R : Value → Prop} {P : List Env → Prop} {name qual : Str} {params : Arguments} {body : List Stmt} {sc : Scope} {dV kV doc pm ct oc : Value} {cd : Addr} {an od : Option Addr} {osl : Array (Option Value)} {loc : Lc}
    (ob co : Params → Obj) (ho : ∀ P, look P f = some (ob P)) (hob : ∀ P, ob P = ⟨oc, od, .func (fnOf name qual params body sc dV kV doc pm (an := an) (cdv := .ref cd) ct), osl⟩) (hco' : ∀ P, look P cd = some (co P)) (hcd : ∀ P, codeIn [(cd, co P)] (.ref cd) qual = true)
    (hbind : ∀ (P : Params) (s : Shared), TH P s.heap → BindsTo s (fnOf name qual params body sc dV kV doc pm an (.ref cd) ct) ⟨vs, []⟩ loc.reverse)
    (hloc : (loc.reverse.all fun x => decide (sc.names.lookup x.1 = some .local)) = true)
    (hco : sc.isCoroutine = false) (hgen : sc.isGenerator = false) (hk : sc.kind = .function) (hcell : (sc.names.all fun x => decide (x.2 ≠ .cell)) = true)
    (hb : ∀ (c : Cx) (ρ : Led) (a : Addr) (e : Env) (l : List Env), P l → c.outer = e :: l → e.frame = some a → c.Ok sc k → c.V → c.A = c.A₀.deeper (c.env sc) → c.E = bad → c.U (execs body (c.env sc)) (EndT c (ρ ++ ι) R) loc ρ ι) : TSpec (k + 1) f vs ι R P := by
  refine .mk fun c sc₀ O V hP mf ρ Q h tk S hQ => ?_
  obtain ⟨F, N, D⟩ := S
  have XX : ∀ g, TH c.w.params g → Frag.In [(f, ob c.w.params), (cd, co c.w.params)] g := fun g T => Kin.cons (K := fun P => [(cd, co P)]) ho (Kin.cons hco' Kin.nil) _ _ T
  have hcd' := code2 (hcd c.w.params) (a := ob c.w.params) (f := f) fun q => by subst q; exact Option.some.inj ((ho _).symm.trans (hco' _))
  refine code_defS (K := [(f, ob c.w.params), (cd, co c.w.params)]) (cdv := .ref cd) (g₀ := c.g) (outer := c.outer) (A₀ := c.A₀) (base := c.base) (cn := c.qual) (cs := sc₀) (a := c.f) (ccd := c.cdv) (mean := c.mean) O.below F (XX _ O.inK) N O.top (XX _ V.inB) V.topB V.dicts .refl O.frames (by simp only [List.lookup, beq_self_eq_true]; exact congrArg some (hob _)) hcd' (by have := O.depth; walk_at "o") (hbind c.w.params _ (TH.keeps F.keep O.inK)) (fun y hy => of_decide_eq_true (List.all_eq_true.mp hloc y hy))
    (fun g L' h₁ FG F' N' B' X' T' D' => ?_) O.kind hco hgen hk (fun x hx => of_decide_eq_true (List.all_eq_true.mp hcell x hx))
  let c' : Cx := { c with A := c.A.deeper (envOf qual sc L' f (.ref cd)), A₀ := c.A, base := c.base, g := g, outer := c.env sc₀ :: c.outer, qual := qual, L := L', f := f, cdv := .ref cd, E := bad }
  have O' : c'.Ok sc k := ⟨B', TH.keeps FG.keep O.inK, T', by show (c.A.deeper _).frames = _; rw [Around.frames_deeper O.frames], O.handled, hk, by show c.A.depth + 1 + k < _; have := O.depth; walk_at "o", by show c.A.units + 3 + 8 * k + 64 < _; have := O.units; walk_at "o", PassesOwn.never⟩
  have S' : St c' loc ρ ι h₁ := ⟨⟨_, F', fun x v a => by rw [List.reverse_reverse]; exact a.lookup⟩, N', D⟩
  refine wpAny_mono (hb c' ρ c.L (c.env sc₀) c.outer hP rfl rfl O' ⟨V.inB, V.topB, D'⟩ rfl rfl h₁ _ S') (fun fl s' x => ?_) fun _ _ x => x.elim
  refine oEEEEAAAA x ?_; clear x; intro h' tk' g' mf' hr zo5 T F₂ N₂; obtain rfl := zo5
  have z : ∀ r, R r → LeaveS ((c.env sc₀ :: c.outer).filterMap (·.frame)) c.A₀ c.base c.outer [(f, ob c.w.params), (cd, co c.w.params)] c.p c.loose c.mean c.mg c.mb c.g c.g c.L mf g Q r (c'.sh h' tk') := fun r hr => leaveS_r F₂ N₂ T fun h₀' T₀ F₃ N₃ B₃ X₃ P₃ D₃ => hQ _ h' tk' h₀' hr T₀ B₃ ⟨V.inB, V.topB, D₃⟩ ⟨F₃, N₃, D⟩
  have w := z _ hr
  cases fl <;> exact w
theorem gRE : GlobF s_ReadError (.ref 52) := ⟨_, kin_glob, fun P => by kernel_rfl⟩
theorem kRE : KeepF (.ref 52) := ⟨_, kin_frag L_RE, fun P => by kernel_rfl⟩
theorem subN {μ ρ ι ι' : Led} (s : Sub ι ι') : Sub (ρ ++ ι) ((μ ++ ρ) ++ ι') := fun p hp => (List.mem_append.mp hp).elim (fun h => List.mem_append.mpr (.inl (List.mem_append.mpr (.inr h)))) fun h => List.mem_append.mpr (.inr (s p h))
local macro_rules | `(tactic| walk_at "M.raise") => `(tactic| (refine W.raise_ (by assumption) ?_; refine W.call_ ?_; refine W.glob (by assumption) gRE ?_; refine W.withN (by assumption) kRE ?_))
theorem refuse {R : Rd} {i : Nat} {μ ι : Led} {k t msg : Str} {x : Value} {u : Tok} (h : Cur R i μ) (ok : R.Ok ι) (hw : WordV ι (R.at i) k t x) (hm : msg.length ≤ 1000) (ht : t.length ≤ 1000) : XSpec 7 150 [.ref R.xc, .str msg u] μ ι := by
  refine oEEEEAAA h.ex fun oc orr la t' zo4 hla dc dr => ?_; obtain rfl := zo4
  refine' XSpec.intro (k := 6) (loc := [(s_message, .str msg u), (s_self, .ref R.xc)]) hd.z150 hd.z149 ?ho ?hob ?hco' ?hcd ?hbind ?hloc ?hco ?hgen ?hk ?hcell ?hb
  walk_at "M.fn"
  intro c ρ O hE
  walk_at "rw"
  refine W.callS (rowpeek h ok) O (by decide) fun r μ' ι1 s1 q => ?_
  obtain ⟨rfl, rfl⟩ := q
  walk_at "rw"
  have fin : ∀ (told : Str) (tv : Tok), told.length ≤ 1000 → c.W (execs (hd.b_Cursor_refuse.drop 2) (c.env hd.e_Cursor_refuse)) (fun _ _ _ _ => False) [(s_told, .str told tv), (s_word, R.at i), (s_message, .str msg u), (s_self, .ref R.xc)] ([(R.dc, oc), (R.dr, orr)] ++ ρ) ι1 := fun told tv hl => by
    show c.W (execs [_] _) _ _ _ _
    walk_at "M.raise"
    walk_at "rw"
    refine W.addS (by show _ + 5 ≤ _; rw [sizeLine_eq]; walk_at "o") fun _ => ?_
    walk_at "rw"
    refine W.addS (by rw [Str.length_append]; show _ + 5 + _ ≤ _; rw [sizeLine_eq]; walk_at "o") fun _ => ?_
    walk_at "rw"
    refine W.w_place O (hw.mono s1) (by decide) fun p ι2 s2 => ?_
    walk_at "rw"
    refine W.newRE O (by decide) fun e t dx ι3 s3 => ?_
    exact ⟨e, t, dx, rfl, .head _, fun hp tk S => hE _ _ (.inl ⟨e, t, dx, _, _, _, _, hp, tk, rfl, rfl, S, subN (Sub.trans s1 (Sub.trans s2 s3))⟩)⟩
  cases e : (k == s_end)
  · refine W.iteF rfl ?_
    walk_at "rw"
    exact fin _ _ ht
  · refine W.iteT rfl ?_
    walk_at "rw"
    exact fin _ _ (by decide)
theorem subP {ρ ι ι' : Led} (s : Sub ι ι') : Sub (ρ ++ ι) (ρ ++ ι') := fun p hp => (List.mem_append.mp hp).elim (fun h => List.mem_append.mpr (.inl h)) fun h => List.mem_append.mpr (.inr (s p h))
theorem wantX {R : Rd} {i : Nat} {μ ι : Led} {k t k' : Str} {x tv : Value} {t1 : Tok} (h : Cur R i μ) (ok : R.Ok ι) (hw : WordV ι (R.at i) k t x) (hne : (k == k' && textIs tv t) = false) (htv : tv = .none ∨ ∃ t' u, tv = .str t' u ∧ t'.length ≤ 900) (vs : List Value) (hvs : vs = [tv] ∨ (vs = [] ∧ tv = .none)) (hk : k'.length ≤ 900) (ht : t.length ≤ 1000) :
    XSpec 9 143 (.ref R.xc :: .str k' t1 :: vs) μ ι := by
  refine' XSpec.intro (k := 8) (loc := [(s_text, tv), (s_kind, .str k' t1), (s_self, .ref R.xc)]) hd.z143 hd.z142 ?ho ?hob ?hco' ?hcd ?hbind ?hloc ?hco ?hgen ?hk ?hcell ?hb
  walk_at "M.fnD"
  (case hbind => rcases hvs with rfl | ⟨rfl, rfl⟩ <;> (intro P s XX; exact bindsD XX (by kernel_rfl : _ = some (hd.z136 P)) rfl rfl (by kernel_rfl!)))
  intro c ρ O hE
  have sz : sizeLine = 16777216 := sizeLine_eq
  have go : ∀ (mt : Str) (u : Tok) (m : Lc) (ι1 : Led) (Q : Po Value), Sub ι ι1 → mt.length ≤ 1000 → c.W (PySem.call (.ref 150) [.ref R.xc, .str mt u]) Q m (μ ++ ρ) ι1 := fun mt u m ι1 Q s1 hl =>
    W.callX (refuse h (ok.mono s1) (hw.mono s1) hl ht) O (by decide) (subP s1) fun v s' q => hE v s' (.inr q)
  walk_at "rw"
  refine W.c_is_at O h ok hw (htv.imp id fun ⟨t', u, e, _⟩ => ⟨t', u, e⟩) [_] (.inl rfl) (by decide) fun ι1 s1 => ?_
  walk_at "rw"
  refine W.iteT (by rw [hne]; rfl) ?_
  rcases htv with rfl | ⟨t', u, rfl, hl⟩
  · walk_at "rw"
    refine W.addS (by show _ + 11 ≤ _; walk_at "o") fun _ => ?_
    walk_at "rw"
    refine go _ _ _ _ _ s1 ?_
    rw [Str.length_append]
    show _ + 11 ≤ _
    walk_at "o"
  · walk_at "rw"
    refine W.addS (by show _ + 11 ≤ _; walk_at "o") fun _ => ?_
    walk_at "rw"
    refine go _ _ _ _ _ s1 ?_
    rw [Str.length_append]
    show _ + 11 ≤ _
    walk_at "o"
theorem part_negX {R : Rd} {i : Nat} {μ ι : Led} {k t : Str} {x : Value} (h : Cur R i μ) (ok : R.Ok ι) (hw : WordV ι (R.at i) s_varsym h_12 .none) (hi : i < R.ws.length) (hw2 : WordV ι (R.at (i + 1)) k t x) (hk : (k == s_int) = false) (ht : t.length ≤ 1000) : XSpec 10 780 [.ref R.xc] μ ι := by
  refine' XSpec.intro (k := 9) (loc := [(s_cursor, .ref R.xc)]) hd.z780 hd.z779 ?ho ?hob ?hco' ?hcd ?hbind ?hloc ?hco ?hgen ?hk ?hcell ?hb
  walk_at "M.fn"
  intro c ρ O hE
  walk_at "rw"
  refine W.c_peek O h ok (by decide) fun ι1 s1 => ?_
  have w1 := hw.mono s1
  walk_at "rw"
  refine W.w_is_word O w1 (by decide) fun ι2 s2 => ?_
  have w2 := w1.mono s2
  walk_at "rw"
  refine W.c_next O h (ok.mono (Sub.trans s1 s2)) hi (by decide) fun ι3 μ3 s3 h3 => ?_
  have s13 := Sub.trans s1 (Sub.trans s2 s3)
  walk_at "rw"
  exact W.callX (wantX h3 (ok.mono s13) (hw2.mono s13) (by rw [hk]; rfl) (.inl rfl) [] (.inr ⟨rfl, rfl⟩) (by decide) ht) O (by decide) (subP s13) fun v s' q => hE v s' (.inr q)
theorem atomX {R : Rd} {i : Nat} {μ ι : Led} {k t : Str} {x : Value} (h : Cur R i μ) (ok : R.Ok ι) (hw : WordV ι (R.at i) k t x) (ha : atomTok k t x = false) (ht : t.length ≤ 1000) : XSpec 9 808 [.ref R.xc] μ ι := by
  refine' XSpec.intro (k := 8) (loc := [(s_cursor, .ref R.xc)]) hd.z808 hd.z807 ?ho ?hob ?hco' ?hcd ?hbind ?hloc ?hco ?hgen ?hk ?hcell ?hb
  walk_at "M.fn"
  intro c ρ O hE
  walk_at "rw"
  refine W.c_atomQ O h ok hw (by decide) fun ι1 s1 => ?_
  refine W.truthyB (W.iteT (by rw [ha]; rfl) ?_)
  walk_at "rw"
  exact W.callX (refuse h (ok.mono s1) (hw.mono s1) (by decide) ht) O (by decide) (subP s1) fun v s' q => hE v s' (.inr q)
theorem part_atomX {R : Rd} {i K : Nat} {μ ι : Led} {k t : Str} {x : Value} (hK : 5 ≤ K) (h : Cur R i μ) (ok : R.Ok ι) (hw : WordV ι (R.at i) k t x) (n0 : (k == s_varsym && t == h_12) = false) (n1 : (k == s_con) = false)
    (hb : (k == s_special && t == h_13) = false ∨ i + 1 < R.ws.length ∧ ∃ k' t' x', WordV ι (R.at (i + 1)) k' t' x' ∧ symTok k' t' = false) (ha : ∀ ι' μ', Sub ι ι' → Cur R i μ' → XSpec K 808 [.ref R.xc] μ' ι') : XSpec (K + 1) 780 [.ref R.xc] μ ι := by
  refine' XSpec.intro (k := K) (loc := [(s_cursor, .ref R.xc)]) hd.z780 hd.z779 ?ho ?hob ?hco' ?hcd ?hbind ?hloc ?hco ?hgen ?hk ?hcell ?hb
  walk_at "M.fn"
  intro c ρ O hE
  walk_at "rw"
  refine W.c_peek O h ok (Nat.le_trans (by decide) hK) fun ι1 s1 => ?_
  have w1 := hw.mono s1
  walk_at "rw"
  refine W.w_is_word O w1 (Nat.le_trans (by decide) hK) fun ι2 s2 => ?_
  have s12 := Sub.trans s1 s2
  have w2 := w1.mono s2
  refine W.truthyB (W.iteF n0 ?_)
  walk_at "rw"
  refine W.c_noName O h (ok.mono s12) w2 n1 (hb.imp id fun ⟨a, k', t', x', b, d⟩ => ⟨a, k', t', x', b.mono s12, d⟩) (Nat.le_trans (by decide) hK) fun ι3 μ3 s3 h3 => ?_
  have s13 := Sub.trans s12 s3
  walk_at "rw"
  exact W.callX (ha ι3 μ3 s13 h3) O (Nat.le_refl _) (subP s13) fun v s' q => hE v s' (.inr q)
theorem operX {R : Rd} {i : Nat} {μ ι : Led} {k t : Str} {x y : Value} (h : Cur R i μ) (ok : R.Ok ι) (hw : WordV ι (R.at i) s_special h_11 y) (hi : i < R.ws.length) (hw2 : WordV ι (R.at (i + 1)) k t x) (hk : (k == s_con) = false) (ht : t.length ≤ 1000) : XSpec 10 773 [.ref R.xc] μ ι := by
  refine' XSpec.intro (k := 9) (loc := [(s_cursor, .ref R.xc)]) hd.z773 hd.z772 ?ho ?hob ?hco' ?hcd ?hbind ?hloc ?hco ?hgen ?hk ?hcell ?hb
  walk_at "M.fn"
  intro c ρ O hE
  walk_at "rw"
  refine W.c_next O h ok hi (by decide) fun ι1 μ1 s1 h1 => ?_
  have w1 := hw.mono s1
  walk_at "rw"
  exact W.callX (wantX h1 (ok.mono s1) (hw2.mono s1) (by rw [hk]; rfl) (.inl rfl) [] (.inr ⟨rfl, rfl⟩) (by decide) ht) O (by decide) (subP s1) fun v s' q => hE v s' (.inr q)
theorem patX0 {R : Rd} {i K : Nat} {μ ι : Led} {k t : Str} {x : Value} (hK : 3 ≤ K) (h : Cur R i μ) (ok : R.Ok ι) (hw : WordV ι (R.at i) k t x) (hp : ∀ ι', Sub ι ι' → XSpec K 780 [.ref R.xc] μ ι') : XSpec (K + 1) 759 [.ref R.xc] μ ι := by
  refine' XSpec.intro (k := K) (loc := [(s_cursor, .ref R.xc)]) hd.z759 hd.z758 ?ho ?hob ?hco' ?hcd ?hbind ?hloc ?hco ?hgen ?hk ?hcell ?hb
  walk_at "M.fn"
  intro c ρ O hE
  walk_at "rw"
  refine W.c_place O h ok hw (Nat.le_trans (by decide) hK) fun p ι1 s1 => ?_
  walk_at "rw"
  exact W.callX (hp ι1 s1) O (Nat.le_refl _) (subP s1) fun v s' q => hE v s' (.inr q)
theorem subC {μ ρ ι ι' : Led} {p : Addr × Obj} (s : Sub ι ι') : Sub (ρ ++ ι) ((p :: ρ) ++ ι') := fun q hq => .tail _ (subP s q hq)
theorem patX1 {R : Rd} {i K J : Nat} {μ ι : Led} {pw : List Value} {x : PyData} {k t : Str} {y : Value} (hK : 6 ≤ K) (h : Cur R i μ) (ok : R.Ok ι) (hp : RPart K J ι pw x) (sg : Seg R i pw) (w : WordV ι (R.at (i + pw.length)) k t y) (hop : opTok k t = true) (hep : eP k t y = true)
    (hx : ∀ ι' μ', Sub ι ι' → Cur R (i + pw.length) μ' → XSpec K 773 [.ref R.xc] μ' ι' ∨ ∃ ow n, Seg R (i + pw.length) ow ∧ OpSeg ι ow n ∧ ∀ ι'' μ'', Sub ι' ι'' → Cur R (i + pw.length + ow.length) μ'' → XSpec K 780 [.ref R.xc] μ'' ι'') : XSpec (K + 1) 759 [.ref R.xc] μ ι := by
  refine oEEEA (hp.first.nx sg) fun k0 t0 x0 w0 _ => ?_
  refine' XSpec.intro (k := K) (loc := [(s_cursor, .ref R.xc)]) hd.z759 hd.z758 ?ho ?hob ?hco' ?hcd ?hbind ?hloc ?hco ?hgen ?hk ?hcell ?hb
  walk_at "M.fn"
  intro c ρ O hE
  walk_at "rw"
  refine W.c_place O h ok w0 (Nat.le_trans (by decide) hK) fun p ι1 s1 => ?_
  walk_at "rw"
  refine W.c_part O h (ok.mono s1) (hp.mono s1) sg ⟨_, _, _, w.mono s1, hep⟩ (Nat.le_refl _) fun r ι2 μ2 s2 hr2 h2 => ?_
  have s12 := Sub.trans s1 s2
  have ok2 := ok.mono s12
  walk_at "rw"
  refine W.listP (μ₁ := μ2) (by walk_at "M.sz") fun l o hpo => ?_
  refine W.while_ (fun _ m' μ' ι4 => m' = [(s_items, .ref l), (s_place, .ref p), (s_cursor, .ref R.xc)] ∧ μ' = μ2 ++ (l, o) :: ρ ∧ ι4 = ι2) (n₀ := 0) ⟨rfl, rfl, rfl⟩ fun n' m' μ' ι4 j => ?_
  refine oAA j ?_; clear j; intro zo0 zo1 zo2; obtain rfl := zo0; obtain rfl := zo1; obtain rfl := zo2
  walk_at "rw"
  refine W.c_isOp O h2 ok2 (w.mono s12) (Nat.le_trans (by decide) hK) fun ι5 s5 => ?_
  refine W.truthyB (W.iteT hop ?_)
  have s15 := Sub.trans s12 s5
  have ok5 := ok2.mono s5
  walk_at "rw"
  rcases hx ι5 μ2 s15 h2 with hx | ⟨ow, n, sg2, ho, hx⟩
  · exact W.callX hx O (Nat.le_refl _) (subC (μ := []) s15) fun v s' q => hE v s' (.inr q)
  · refine W.c_oper O h2 ok5 sg2 (ho.mono s15) (Nat.le_trans (by decide) hK) fun r1 ι6 μ6 s6 hr6 h6 => ?_
    walk_at "rw"
    refine W.append (μ₁ := μ6) hpo (by show 1 ≤ _; rw [sizeLine_eq]; decide) fun o1 hp1 => ?_
    walk_at "rw"
    exact W.callX (hx ι6 μ6 s6 h6) O (Nat.le_refl _) (subC (μ := []) (Sub.trans s15 s6)) fun v s' q => hE v s' (.inr q)
theorem bracX {R : Rd} {i K J : Nat} {μ ι : Led} {pw : List Value} {x : PyData} {k t : Str} {y : Value} {p : Addr} (hK : 9 ≤ K) (h : Cur R i μ) (ok : R.Ok ι) (hp : RPat K J ι pw x) (sg : Seg R i pw) (w : WordV ι (R.at (i + pw.length)) k t y) (hec : eC k t y = true) (hne : (k == s_special && t == h_3) = false) (ht : t.length ≤ 1000) :
    XSpec (K + 2) 829 [.ref R.xc, .ref p] μ ι := by
  refine oEEEA (hp.first.nx sg) fun k0 t0 x0 w0 f0 => ?_
  refine' XSpec.intro (k := K + 1) (loc := [(s_place, .ref p), (s_cursor, .ref R.xc)]) hd.z829 hd.z828 ?ho ?hob ?hco' ?hcd ?hbind ?hloc ?hco ?hgen ?hk ?hcell ?hb
  walk_at "M.fn"
  intro c ρ O hE
  walk_at "rw"
  refine W.c_take O h ok w0 (by rw [(fTok_not f0).2.1]; exact fun e => nomatch e) (by walk_at "o") fun ι1 μ1 s1 h1 => ?_
  rw [(fTok_not f0).2.1] at h1 ⊢
  have ok1 := ok.mono s1
  walk_at "rw"
  refine W.c_several (ts := []) O (by walk_at "o") (hp.mono s1) (fun t h => nomatch h) (by decide) ok1 (by simpa using sg) ⟨k, t, y, by simpa using w.mono s1, hec⟩ h1 (Nat.le_refl _) fun r ι2 μ2 us s2 hl e2 hr h2 => ?_
  have s12 := Sub.trans s1 s2
  walk_at "rw"
  exact W.callX (wantX h2 (ok.mono s12) (by simpa using w.mono s12) (by simpa [textIs] using hne) (.inr ⟨_, _, rfl, by decide⟩) [_] (.inl rfl) (by decide) ht) O (by walk_at "o") (subP s12) fun v s' q => hE v s' (.inr q)
theorem atomBracX {R : Rd} {i K : Nat} {μ ι : Led} {y : Value} (hK : 5 ≤ K) (h : Cur R i μ) (ok : R.Ok ι) (w : WordV ι (R.at i) s_special h_13 y) (hi : i < R.ws.length) (hx : ∀ ι' μ' p, Sub ι ι' → Cur R (i + 1) μ' → XSpec K 829 [.ref R.xc, .ref p] μ' ι') : XSpec (K + 1) 808 [.ref R.xc] μ ι := by
  refine' XSpec.intro (k := K) (loc := [(s_cursor, .ref R.xc)]) hd.z808 hd.z807 ?ho ?hob ?hco' ?hcd ?hbind ?hloc ?hco ?hgen ?hk ?hcell ?hb
  walk_at "M.fn"
  intro c ρ O hE
  walk_at "rw"
  refine W.c_atomQ O h ok w (by walk_at "o") fun ι1 s1 => ?_
  walk_at "rw"
  refine W.c_next O h (ok.mono s1) hi (by walk_at "o") fun ι2 μ2 s2 h2 => ?_
  have s12 := Sub.trans s1 s2
  have w2 := w.mono s12
  walk_at "rw"
  refine W.w_place O w2 (by walk_at "o") fun p ι3 s3 => ?_
  have w3 := w2.mono s3
  have s13 := Sub.trans s12 s3
  walk_at "rw"
  refine W.inK O litsK ?_
  walk_at "rw"
  exact W.callX (hx ι3 μ2 p s13 h2) O (Nat.le_refl _) (subP s13) fun v s' q => hE v s' (.inr q)
theorem law_readX {K : Nat} {ι : Led} {wl : Value} {ws : List Value} (hK : 6 ≤ K) (hl : ListF ι wl ws) (hn : ws.length < 2 ^ 20) (hx : ∀ (R : Rd) ι' μ', Sub ι ι' → R.ws = ws → R.Ok ι' → WordV ι' R.e s_end h_nil .none → Cur R 0 μ' → XSpec K 759 [.ref R.xc] μ' ι') :
    TSpec (K + 1) 1022 [wl] ι (fun r => r = .none) (fun _ => True) := by
  refine' TSpec.intro (k := K) (loc := [(s_words, wl)]) hd.z1022 hd.z1021 ?ho ?hob ?hco' ?hcd ?hbind ?hloc ?hco ?hgen ?hk ?hcell ?hb
  walk_at "M.fn"
  intro c ρ a0 e0 l0 _ ho hf O V hA hE
  refine U.app (ss := [_]) (rest := [_, _]) ?_
  walk_at "ry"
  rename_i e ι1 s1 Ie
  have we : WordV ι1 e s_end h_nil .none := by walk_at "M.word"
  refine W.newM O (nF .WordRow) (j := 1) (by walk_at "o") (fun x dx => init_WordRow (.head _)) fun xr dr orr ι2 fs s2 hxr hdr hfs => ?_
  obtain ⟨t0, rfl⟩ := hfs
  walk_at "ry"
  refine ⟨rfl, U.tryN (n := ρ ++ ι) O V hA hE (fun E' O' hE' => ?_) fun h' tk' g' mf' T F N => ⟨h', tk', g', mf', rfl, rfl, T, F, N⟩⟩
  revert O'
  generalize hc : ({ c with E := E' } : Cx) = c2
  intro O'
  walk_at "ry"
  refine W.newM O' (nF .Cursor) (j := 1) (by walk_at "o") (fun x dx => init_Cursor (.head _)) fun xc dc oc ι3 fs s3 hxc hdc hfs => ?_
  subst hfs
  walk_at "ry"
  have hwl : handedIn wl = true := by refine oEEA hl.ex fun a o zo2 _ => ?_; obtain rfl := zo2; rfl
  let R : Rd := ⟨xc, dc, xr, dr, wl, ws, e⟩
  have s13 : Sub ι ι3 := by walk_at "M.sub"
  have we3 : WordV ι3 e s_end h_nil .none := we.mono (by walk_at "M.sub")
  have ok : R.Ok ι3 := ⟨hxc, s3 _ hxr, hl.mono s13, we3, hn, hwl, we.href⟩
  have hcu : Cur R 0 [(dc, oc), (dr, orr)] := ⟨oc, orr, .none, t0, rfl, rfl, hdc, hdr⟩
  refine W.callX (μ := [(dc, oc), (dr, orr)]) (hx R ι3 _ s13 rfl ok we3 hcu) O' (Nat.le_refl _) (subP s13) fun v s' q => ?_
  subst hc
  exact hE' v s' q
local macro_rules | `(tactic| walk_at "M.raise") => `(tactic| (refine W.raise_ (by assumption) ?_; refine W.call_ ?_; refine W.glob (by assumption) gRE ?_; refine W.withN (by assumption) kRE ?_))
theorem dotted {ι : Led} {t : Tok} : Spec 1 836 [.str h_28 t] [] ι (Gives (fun r => r = .bool false) []) := by
  refine' Spec.intro (k := 0) (loc := [(s_name, .str h_28 t)]) hd.z836 hd.z835 ?ho ?hob ?hco' ?hcd ?hbind ?hloc ?hco ?hgen ?hk ?hcell ?hb
  walk_at "M.fn"
  intro c ρ O
  walk_at "rw"
  refine W.notInS ?_
  refine ⟨_, rfl, W.iteF (by kernel_rfl!) ?_⟩
  exact Ends.gives Sub.refl rfl
theorem turnX_var {ι : Led} {v u : Value} {t : Tok} (I : InstF ι v 236 [(s_uses, u), (s_name, .str h_28 t), (s_place, .none)]) : XSpec 7 841 [v] [] ι := by
  refine' XSpec.intro (k := 6) (loc := [(s_expr, v)]) hd.z841 hd.z840 ?ho ?hob ?hco' ?hcd ?hbind ?hloc ?hco ?hgen ?hk ?hcell ?hb
  walk_at "M.fn"
  intro c ρ O hE
  walk_at "rx"
  refine W.callS (μ := []) dotted O (by decide) fun r μ' ι1 s1 g => ?_
  obtain ⟨rfl, rfl⟩ := g
  walk_at "rx"
  walk_at "M.raise"
  walk_at "rx"
  refine W.newRE O (by decide) fun e t dx ι3 s3 => ?_
  exact ⟨e, t, dx, rfl, .head _, fun hp tk S => hE _ _ (.inl ⟨e, t, dx, _, _, _, _, hp, tk, rfl, rfl, S, subN (μ := []) (by walk_at "M.sub")⟩)⟩
theorem con_operatorX {ι : Led} {v n : Value} (I : InstF ι v 344 [(s_is_con, .bool false), (s_name, n), (s_place, .none)]) : XSpec 7 860 [v] [] ι := by
  refine' XSpec.intro (k := 6) (loc := [(s_op, v)]) hd.z860 hd.z859 ?ho ?hob ?hco' ?hcd ?hbind ?hloc ?hco ?hgen ?hk ?hcell ?hb
  walk_at "M.fn"
  intro c ρ O hE
  walk_at "rx"
  walk_at "M.raise"
  walk_at "rx"
  refine W.newRE O (by decide) fun e t dx ι3 s3 => ?_
  exact ⟨e, t, dx, rfl, .head _, fun hp tk S => hE _ _ (.inl ⟨e, t, dx, _, _, _, _, hp, tk, rfl, rfl, S, subN (μ := []) (by walk_at "M.sub")⟩)⟩
theorem appliedX {ι : Led} {v f a u1 n1 : Value} {t1 : Tok} (I : InstF ι v 317 [(s_arg, a), (s_fun, f), (s_place, .none)]) (If : InstF ι f 236 [(s_uses, u1), (s_name, n1), (s_place, .none)]) (ha : handedIn a = true) : XSpec 8 846 [v] [] ι := by
  have hf : handedIn f = true := by refine oEEEEA If.ex fun y _ _ _ zo4 _ => ?_; obtain rfl := zo4; rfl
  refine' XSpec.intro (k := 7) (loc := [(s_expr, v)]) hd.z846 hd.z845 ?ho ?hob ?hco' ?hcd ?hbind ?hloc ?hco ?hgen ?hk ?hcell ?hb
  walk_at "M.fn"
  intro c ρ O hE
  refine W.asgSwap (names := [s_args, s_head]) O ?_
  walk_at "rx"
  refine W.listP (μ₁ := []) (by walk_at "M.sz") fun l o ho => ?_
  walk_at "rx"
  rename_i tv ι₁ s₁ ht
  refine ⟨_, ht, rfl, ?_⟩
  show c.W _ _ ((s_args, .ref l) :: (s_head, v) :: [(s_expr, v)]) ((l, o) :: ρ) ι₁
  refine W.while_ (fun n' m' μ' ι₄ => ι₄ = ι₁ ∧ ∃ (w : Value) (o : Obj), At s_head w m' ∧ At s_args (.ref l) m' ∧ At s_expr v m' ∧ μ' = (l, o) :: ρ ∧ ((n' = 1 ∧ w = v ∧ PObj o []) ∨ (n' = 0 ∧ w = f))) (n₀ := 1)
    ⟨rfl, v, o, .there (by kernel_rfl!) .here, .here, .there (by kernel_rfl!) (.there (by kernel_rfl!) .here), rfl, .inl ⟨rfl, rfl, ho⟩⟩ fun n' m' μ' ι₄ j => ?_
  refine oAEEAAAA j ?_; clear j; intro zo0 w o a1 a2 a3 zo6 zo7; obtain rfl := zo0; obtain rfl := zo6; obtain ⟨rfl, rfl, hp⟩ | ⟨rfl, rfl⟩ := zo7
  · walk_at "rx"
    refine W.fld_ O (I.mono s₁) (by walk_at "M.at") (fF .App_arg) ?_ ha
    walk_at "rx"
    refine W.append (μ₁ := []) hp (by walk_at "M.sz") fun o2 hp2 => ?_
    walk_at "rx"
    refine W.fld_ O (I.mono s₁) (by walk_at "M.at") (fF .App_fun) ?_ hf
    walk_at "rx"
    exact ⟨rfl, 0, by decide, rfl, _, o2, .here, .there (by kernel_rfl!) a2, .there (by kernel_rfl!) a3, rfl, .inr ⟨rfl, rfl⟩⟩
  · walk_at "rx"
    walk_at "M.raise"
    walk_at "rx"
    refine W.newRE O (by decide) fun e t dx ι3 s3 => ?_
    exact ⟨e, t, dx, rfl, .head _, fun hp tk S => hE _ _ (.inl ⟨e, t, dx, _, _, _, _, hp, tk, rfl, rfl, S, subN (μ := [_]) (by walk_at "M.sub")⟩)⟩
local macro_rules | `(tactic| walk_at "M.raise") => `(tactic| (refine W.raise_ (by assumption) ?_; refine W.call_ ?_; refine W.glob (by assumption) gRE ?_; refine W.withN (by assumption) kRE ?_))
theorem infixX {ι : Led} {l o a z : Value} {n : Value} {na : Str} {ta : Tok} {u : Value} (Io : InstF ι o 344 [(s_is_con, .bool false), (s_name, n), (s_place, .none)]) (Ia : InstF ι a 236 [(s_uses, u), (s_name, .str na ta), (s_place, .none)]) (hn : na = s_a ∨ na = s_b ∨ na = s_c)
    (hl : ListF ι l [o, a] ∨ ListF ι l [a, o, z]) : XSpec 8 853 [l, .none] [] ι := by
  refine' XSpec.intro (k := 7) (loc := [(s_place, .none), (s_items, l)]) hd.z853 hd.z852 ?ho ?hob ?hco' ?hcd ?hbind ?hloc ?hco ?hgen ?hk ?hcell ?hb
  walk_at "M.fn"
  intro c ρ O hE
  refine W.asgSwap (names := [s_found, s_at]) O ?_
  walk_at "rx"
  refine W.listP (μ₁ := []) (by walk_at "M.sz") fun f o1 ho => ?_
  walk_at "rx"
  rename_i tk tv ι₁ s₁ ht
  refine ⟨_, ht, rfl, ?_⟩
  show c.W _ _ ((s_found, .ref f) :: (s_at, .int 0 tk) :: [(s_place, .none), (s_items, l)]) ((f, o1) :: ρ) ι₁
  refine W.while_ (fun n' m' μ' ι₄ => Sub ι₁ ι₄ ∧ ∃ (i : Int) (u : Tok) (o1 : Obj), At s_at (.int i u) m' ∧ At s_found (.ref f) m' ∧ At s_items l m' ∧ μ' = (f, o1) :: ρ ∧ ((n' = 1 ∧ i = 0 ∧ PObj o1 []) ∨ (n' = 0 ∧ i = 1 ∧ ListF ι₄ l [a, o, z] ∧ ∃ r, PObj o1 [r]))) (n₀ := 1)
    ⟨Sub.refl, 0, tk, o1, .there (by kernel_rfl!) .here, .here, .there (by kernel_rfl!) (.there (by kernel_rfl!) (.there (by kernel_rfl!) .here)), rfl, .inl ⟨rfl, rfl, ho⟩⟩ fun n' m' μ' ι₄ j => ?_
  refine oAEEEAAAA j ?_; clear j; intro s₄ i u1 o2 a1 a2 a3 zo7 zo8; obtain rfl := zo7; obtain ⟨rfl, rfl, hp⟩ | ⟨rfl, rfl, hl4, r, hp⟩ := zo8
  · have s14 := Sub.trans s₁ s₄
    have Io4 := Io.mono s14
    have Ia4 := Ia.mono s14
    rcases hl with hl | hl
    · have hl4 := hl.mono s14
      walk_at "rx"
      refine W.len_ hl4 (by simp) fun _ => ?_
      walk_at "rx"
      refine W.item_ hl4 (by decide) (by decide) (x := o) (by rfl) ?_
      walk_at "rx"
      refine W.lenM (.head _) hp.lobj (by simp) fun _ => ?_
      walk_at "rx"
      refine W.modI (by decide) fun _ => ?_
      walk_at "rx"
      refine W.len_ hl4 (by simp) fun _ => ?_
      walk_at "rx"
      refine W.item_ hl4 (by decide) (by decide) (x := a) (by rfl) ?_
      walk_at "rx"
      walk_at "M.raise"
      walk_at "rx"
      refine W.newRE O (by decide) fun e t dx ι3 s3 => ?_
      exact ⟨e, t, dx, rfl, .head _, fun hp tk S => hE _ _ (.inl ⟨e, t, dx, _, _, _, _, hp, tk, rfl, rfl, S, subN (μ := [_]) (by walk_at "M.sub")⟩)⟩
    · have hl4 := hl.mono s14
      walk_at "rx"
      refine W.len_ hl4 (by simp) fun _ => ?_
      walk_at "rx"
      refine W.item_ hl4 (by decide) (by decide) (x := a) (by rfl) ?_
      walk_at "rx"
      refine W.c_turn O (exp_var hn Ia4) (by decide) fun r ι5 s5 hr5 => ?_
      walk_at "rx"
      refine W.append (μ₁ := []) hp (by walk_at "M.sz") fun o3 hp3 => ?_
      walk_at "rx"
      exact ⟨rfl, 0, by decide, Sub.trans s₄ s5, 1, _, o3, .here, .there (by kernel_rfl!) (.there (by kernel_rfl!) a2), .there (by kernel_rfl!) (.there (by kernel_rfl!) a3), rfl, .inr ⟨rfl, rfl, hl4.mono s5, r, hp3⟩⟩
  · have s14 := Sub.trans s₁ s₄
    have Io4 := Io.mono s14
    walk_at "rx"
    refine W.len_ hl4 (by simp) fun _ => ?_
    walk_at "rx"
    refine W.item_ hl4 (by decide) (by decide) (x := o) (by rfl) ?_
    walk_at "rx"
    refine W.lenM (.head _) hp.lobj (by simp) fun _ => ?_
    walk_at "rx"
    refine W.modI (by decide) fun _ => ?_
    walk_at "rx"
    have s4 : Sub ι₄ _ := Sub.refl
    refine W.callX (μ := []) (con_operatorX (Io4.mono (by walk_at "M.sub"))) O (by decide) (subC (μ := []) (by walk_at "M.sub")) fun v s' q => hE v s' (.inr q)
theorem turnX_infix {ι : Led} {v l : Value} (I : InstF ι v 371 [(s_items, l), (s_place, .none)]) (hh : handedIn l = true) (hx : ∀ ι', Sub ι ι' → XSpec 8 853 [l, .none] [] ι') : XSpec 9 841 [v] [] ι := by
  refine' XSpec.intro (k := 8) (loc := [(s_expr, v)]) hd.z841 hd.z840 ?ho ?hob ?hco' ?hcd ?hbind ?hloc ?hco ?hgen ?hk ?hcell ?hb
  walk_at "M.fn"
  intro c ρ O hE
  walk_at "rx"
  refine W.fld_ O (by walk_at "M.fact") (by walk_at "M.at") (fF .Infix_items) ?_ hh
  walk_at "rx"
  exact W.callX (μ := []) (hx _ (by walk_at "M.sub")) O (Nat.le_refl _) (subP (by walk_at "M.sub")) fun v s' q => hE v s' (.inr q)
theorem turnX_app {ι : Led} {v : Value} {fs : Lc} (I : InstF ι v 317 fs) (hx : ∀ ι', Sub ι ι' → XSpec 8 846 [v] [] ι') : XSpec 9 841 [v] [] ι := by
  refine' XSpec.intro (k := 8) (loc := [(s_expr, v)]) hd.z841 hd.z840 ?ho ?hob ?hco' ?hcd ?hbind ?hloc ?hco ?hgen ?hk ?hcell ?hb
  walk_at "M.fn"
  intro c ρ O hE
  walk_at "rx"
  exact W.callX (μ := []) (hx _ (by walk_at "M.sub")) O (Nat.le_refl _) (subP (by walk_at "M.sub")) fun v s' q => hE v s' (.inr q)
theorem law_turnedX {K : Nat} {ι : Led} {v : Value} (hx : ∀ ι', Sub ι ι' → XSpec K 841 [v] [] ι') : TSpec (K + 1) 1029 [v] ι (fun r => r = .none) (fun _ => True) := by
  refine' TSpec.intro (k := K) (loc := [(s_expression, v)]) hd.z1029 hd.z1028 ?ho ?hob ?hco' ?hcd ?hbind ?hloc ?hco ?hgen ?hk ?hcell ?hb
  walk_at "M.fn"
  intro c ρ a0 e0 l0 _ ho hf O V hA hE
  refine U.tryN (n := ρ ++ ι) O V hA hE (fun E' O' hE' => ?_) fun h' tk' g' mf' T F N => ⟨h', tk', g', mf', rfl, rfl, T, F, N⟩
  revert O'
  generalize hc : ({ c with E := E' } : Cx) = c2
  intro O'
  walk_at "rx"
  refine W.callX (μ := []) (hx _ (by walk_at "M.sub")) O' (Nat.le_refl _) (subP (by walk_at "M.sub")) fun v s' q => ?_
  subst hc
  exact hE' v s' q
section
variable {c : Cx} {sc : Scope} {m : Lc} {μ ι ρ : Led} {k : Nat} {Lf : Addr} {h : Heap}
def Tn (c : Cx) (m : Lc) (μ ι : Led) (h : Heap) : Prop := ∃ g', KtsTurn c.fs c.g g' ∧ Below c.A₀ c.base c.outer g' ∧ (c.turn g').V ∧ St (c.turn g') m μ ι h
theorem Tn.of (O : c.Ok sc k) (V : c.V) (S : St c m μ ι h) : Tn c m μ ι h := ⟨c.g, .refl, O.below, V, S⟩
theorem Tn.trans {g' : Heap} (T : KtsTurn c.fs c.g g') (x : Tn (c.turn g') m μ ι h) : Tn c m μ ι h := by obtain ⟨g₂, T₂, r⟩ := x; exact ⟨g₂, T.trans T₂, r⟩
def FrO (c : Cx) (Lf : Addr) (o : Obj) : Prop := ∃ oL sl, c.g.get? Lf = some oL ∧ o = { oL with slots := sl }
abbrev Cx.hid (c : Cx) (Lf : Addr) : Cx := c.turn (hideAll c.g [Lf])
theorem hid_sub {b : Addr} {o : Obj} (e : (hideAll c.g [Lf]).get? b = some o) : c.g.get? b = some o ∧ b ≠ Lf := ⟨of_hideAll _ e, fun q => by rw [q, hideAll_none [Lf] (.head _)] at e; cases e⟩
theorem Tn.hide (hf : c.fs = [Lf]) (O : c.Ok sc k) (x : Tn c m μ ι h) : ∃ o, FrO c Lf o ∧ St (c.hid Lf) m ((Lf, o) :: μ) ι h := by
  refine oEAAA x ?_; clear x; intro g' T B V S
  refine oEA S.F fun mf F hm => ?_
  refine oAEA (O.below.frames.mem (b := Lf) (by rw [show c.outer.filterMap (·.frame) = [Lf] from hf]; exact .head _)) fun _ oL hoL _ => ?_
  obtain ⟨sl, hs⟩ := T.frame Lf oL hoL (by rw [hf]; exact .head _)
  have hL : Lf ≠ c.L := fun q => by have := kts_self F; rw [← q] at this; rw [show (c.turn g').g.get? Lf = some _ from hs] at this; cases this
  have hn : ∀ p ∈ μ ++ ι, p.1 ≠ Lf := fun p hp q => by have := (S.N p hp).2.2; rw [q] at this; rw [show (c.turn g').g.get? Lf = some _ from hs] at this; cases this
  refine ⟨{ oL with slots := sl }, ⟨oL, sl, hoL, rfl⟩, ⟨mf, ⟨F.ns, fun b o e => ?_, ?_⟩, hm⟩, fun p hp => ?_, ?_⟩
  · obtain ⟨e1, e2⟩ := hid_sub e
    exact F.keep b o (T.other b o e1 (by rw [hf]; simpa using e2))
  · have := F.above
    show (hideAll c.g [Lf]).objs.size ≤ c.L
    rw [hideAll_size, ← T.size]; exact this
  · rcases List.mem_cons.mp hp with rfl | hp
    · exact ⟨F.keep _ _ hs, hL, hideAll_none _ (.head _)⟩
    · refine ⟨(S.N p hp).1, (S.N p hp).2.1, ?_⟩
      cases q : (hideAll c.g [Lf]).get? p.1 with
      | none => rfl
      | some o =>
        obtain ⟨sl', e'⟩ := T.up (hid_sub q).1
        have := (S.N p hp).2.2
        rw [show (c.turn g').g.get? p.1 = some _ from e'] at this; cases this
  · exact Apart.cons S.D fun q hq => hn q hq
theorem Tn.unhide {o : Obj} (hf : c.fs = [Lf]) (O : c.Ok sc k) (V : c.V) (S : St (c.hid Lf) m ((Lf, o) :: μ) ι h) (hO : FrO c Lf o) : Tn c m μ ι h := by
  refine oEA S.F fun mf F hm => ?_
  refine oEEA hO ?_; clear hO; intro oL sl hoL zo3; obtain rfl := zo3
  have hLf := S.N (Lf, { oL with slots := sl }) (.head _)
  have off := (Apart.ne (μ₁ := []) S.D).2
  have keep : ∀ b o, c.g.get? b = some o → b ∉ c.fs → h.get? b = some o := fun b o e nm => F.keep b o (hideAll_get _ e (by rw [← hf]; exact nm))
  obtain ⟨T, K⟩ := kts_turn_at (h := h) (fs := c.fs) (g := c.g) (fun b hb => by rw [hf] at hb; rw [List.mem_singleton.mp hb]; exact ⟨_, hoL⟩) keep (fun b o' e hb => by
    rw [hf] at hb
    obtain rfl := List.mem_singleton.mp hb
    rw [hoL] at e
    cases e
    exact ⟨sl, hLf.1⟩)
  have B : Below c.A₀ c.base c.outer (ktsHeap h c.fs c.g) := ⟨O.below.stack, fun b o e => T.other b o (O.below.stays b o e) (fun hm => by
    rw [(O.below.frames.mem hm).1] at e
    cases e), O.below.frames.of_keeps fun b o e _ => by
    obtain ⟨sl', hs'⟩ := T.up e
    exact ⟨_, hs', rfl⟩⟩
  refine ⟨_, T, B, ⟨V.inB, V.topB, V.dicts.turn T⟩, ⟨mf, ⟨F.ns, K, ?_⟩, hm⟩, fun p hp => ⟨(S.N p (.tail _ hp)).1, (S.N p (.tail _ hp)).2.1, ?_⟩, Apart.tail S.D⟩
  · show (ktsHeap h c.fs c.g).objs.size ≤ c.L
    have := F.above
    rw [show (c.hid Lf).g = hideAll c.g [Lf] from rfl, hideAll_size] at this
    rw [T.size]; exact this
  · refine T.none_ _ ?_
    cases q : c.g.get? p.1 with
    | none => rfl
    | some o' =>
      have := (S.N p (.tail _ hp)).2.2
      rw [show (c.hid Lf).g.get? p.1 = _ from hideAll_get [Lf] q (by simpa using off p hp)] at this; cases this
theorem U.callN {x fn : Str} {p1 p2 p3 : Pos} {v : Value} {f : Addr} {j : Nat} {R : Value → Prop} {P : List Env → Prop} (O : c.Ok sc k) (V : c.V) (hP : P c.outer) (hj : j ≤ k) (sp : TSpec j f [v] ι R P) (gf : GlobF fn (.ref f)) (kf : KeepF (.ref f)) (a : At x v m)
    (hx : sc.names.lookup x = some .local) (hf : sc.names.lookup fn = some .globalImplicit) (hd : (x == ("__debug__" : Str)) = false) (hdf : (fn == ("__debug__" : Str)) = false)
    (he : eval (.Call (.Name fn p1) [.Name x p2] [] p3) (c.env sc) = (do callWith p3 (← eval (.Name fn p1) (c.env sc)) [] (backTo p3 (starEach [.Name x p2] (c.env sc))) (backToKw p3 (keywordEach [] (c.env sc)))) := by rfl) :
    c.U (eval (.Call (.Name fn p1) [.Name x p2] [] p3) (c.env sc)) (fun r s' => R r ∧ ∃ h' tk', s' = c.sh h' tk' ∧ Tn c m μ ι h') m μ ι := fun hp tk S => by
  refine oEA S.F fun mf F hm => ?_
  refine oEA gf.ex fun K X gf => ?_
  refine oEA kf.ex fun K' X' kf => ?_
  refine Call_ (nameX_K (cl := []) F (X _ _ O.inK) (topRead_of O.top) (gf _) ?_ O.kind hf hdf) he
  refine callWith_K (X' _ _ O.inK) (kf _) (args_cons (nameX_L (cl := []) F (hm _ _ a) (args_nil ⟨X' _ _ (TH.keeps F.keep O.inK), wpAny_call ?_⟩) O.kind hx hd) rfl)
  exact sp.run c sc (O.less hj) V hP mf μ _ hp tk ⟨F, S.N, S.D⟩ fun r h' tk' g' hr T B V' S' => ⟨hr, h', tk', rfl, g', T, B, V', ⟨mf, S'.F, hm⟩, S'.N, S'.D⟩
theorem U.ifNone {x fn : Str} {p1 p2 p3 p4 p5 p6 : Pos} {k' : Nat} {v : Value} {b : List Stmt} {f : Addr} {j : Nat} {P : List Env → Prop} (O : c.Ok sc k) (V : c.V) (hP : P c.outer) (hj : j ≤ k) (sp : TSpec j f [v] ι (fun r => r = .none) P) (gf : GlobF fn (.ref f)) (kf : KeepF (.ref f)) (a : At x v m)
    (hx : sc.names.lookup x = some .local) (hf : sc.names.lookup fn = some .globalImplicit) (hd : (x == ("__debug__" : Str)) = false) (hdf : (fn == ("__debug__" : Str)) = false) :
    c.U (execs [.If (.Compare (.Call (.Name fn p1) [.Name x p2] [] p3) [.IsNot] [.Constant .none k' p4] p5) b [] p6] (c.env sc)) (fun fl s' => fl = .next ∧ ∃ h' tk', s' = c.sh h' tk' ∧ Tn c m μ ι h') m μ ι := U.cons fun hp tk S => by
  refine wpAny_If (wpAny_isTrue_Compare1 (wpAny_mono (U.callN O V hP hj sp gf kf a hx hf hd hdf (by rfl) hp tk S) (fun r s' q => ?_) fun _ _ x => x) rfl)
  refine oAEEA q ?_; clear q; intro zo0 h' tk' zo3 T; obtain rfl := zo0; obtain rfl := zo3
  refine wpAny_Constant_none (wpAny_isNot_plain rfl (wpAny_truthy_bool ?_))
  exact wpAny_execs_nil (wpAny_execs_nil ⟨rfl, h', tk', rfl, T⟩)
end
section
variable {c : Cx} {sc : Scope} {m : Lc} {μ ι ρ : Led} {k : Nat} {Lf : Addr} {h : Heap}
theorem forList {x : Str} {body : List Stmt} {I : Addr} {lp : Addr × Obj} {hp : Heap} {tk : Nat} {Q : Flow → Shared → Prop} (hf : c.fs = [Lf]) (O : c.Ok sc k) (V : c.V) (hlp : lp ∈ ι)
    (off : ∀ o, ∀ p ∈ (Lf, o) :: (μ ++ ι), p.1 ≠ I) :
    ∀ (vs : List Value) (m' : Lc) (mf : Str → Option Value) (o : Obj),
    (∀ v ∈ vs, ∀ g' m' it, KtsTurn c.fs c.g g' → (c.turn g').Ok sc k → (c.turn g').V → (∀ y u, At y u m → (y == x) = false → At y u m') →
      (c.turn g').U (execs body (c.env sc)) (fun fl s' => fl = .next ∧ ∃ h' tk', s' = c.sh h' tk' ∧ Tn (c.turn g') ((x, v) :: m') ((I, it) :: μ) ι h') ((x, v) :: m') ((I, it) :: μ) ι) →
    (∀ h tk m', (∀ y u, At y u m → (y == x) = false → At y u m') → Tn c m' μ ι h → Q .next (c.sh h tk)) →
    (∀ y u, At y u m → (y == x) = false → At y u m') → (∀ y u, At y u m' → mf y = some u) → FrO c Lf o → Apart ((Lf, o) :: μ) ι →
      ListRest c.prog c.w c.A c.E (hideAll c.g [Lf]) (c.env sc) x body Q (c.sh hp tk) I lp vs mf ((Lf, o) :: (μ ++ ι))
  | [], m', mf, o, _, nxt, hk, hm, hO, D => .zero fun h tk F N => nxt h tk m' hk (Tn.unhide hf O V (o := o) ⟨⟨mf, F, hm⟩, N, D⟩ hO)
  | v :: vs, m', mf, o, turn, nxt, hk, hm, hO, D => .succ fun it h tk hit F N => by
    have S : St (c.hid Lf) ((x, v) :: m') ((Lf, o) :: (I, it) :: μ) ι h := by
      refine ⟨⟨_, F, fun y u q => ?_⟩, fun p hp => N p ?_, ?_⟩
      · cases q with
        | here => simp
        | there ne q => simp [Ne.symm (beq_eq_false_iff_ne.mp ne), hm _ _ q]
      · simp only [List.mem_append, List.mem_cons, List.cons_append, List.nil_append] at hp ⊢
        rcases hp with q | q | q | q <;> simp [q]
      · exact Apart.insert (own := [(Lf, o)]) D fun q hq => off o q (by simpa using hq)
    refine oEAAA (Tn.unhide hf O V S hO) fun g' T B V' S' => ?_
    have O' := O.turn V B
    refine wpAny_mono (turn v (.head _) g' m' it T O' V' hk h tk S') (fun fl s' q => ?_) fun _ _ x => x
    refine oAEEA q ?_; clear q; intro zo0 h' tk' zo3 T2; obtain rfl := zo0; obtain rfl := zo3
    refine oEA (Tn.hide hf O (Tn.trans T T2)) fun o' hO' S2 => ?_
    refine oEA S2.F fun mf' F' hm' => ?_
    have D2 : Apart ((Lf, o') :: μ) ι := (Apart.freeze (μ₁ := [(Lf, o')]) S2.D).imp id fun d p hp q hq => d p hp q (.tail _ hq)
    show UnrEnd (hideAll c.g [Lf]) c.L (c.sh h tk) I _ _ (c.sh h' tk')
    refine UnrEnd.intro (s₁ := c.sh h tk) (h' := h') (tk := tk') F' S2.N ((Lf, o') :: (μ ++ ι)) (fun p hp => ?_) (fun p hp => off o' p hp) ⟨.tail _ (List.mem_append.mpr (.inr hlp)), forList hf O V hlp off vs ((x, v) :: m') mf' o' (fun v hv => turn v (.tail _ hv)) nxt (fun y u a ne => .there (by rw [beq_eq_false_iff_ne] at ne ⊢; exact Ne.symm ne) (hk y u a ne)) hm' hO' D2⟩
    simp only [List.mem_append, List.mem_cons, List.cons_append, List.nil_append] at hp ⊢
    rcases hp with q | q | q | q <;> simp [q]
theorem U.forL {x : Str} {px pos : Pos} {iter : Expr} {body rest : List Stmt} {P : Flow → Shared → Prop} (hf : c.fs = [Lf]) (O : c.Ok sc k) (V : c.V)
    (hi : c.W (eval iter (c.env sc)) (fun v m' μ' ι' => ∃ vs, ListF ι' v vs ∧ m' = m ∧ μ' = μ ∧
      (∀ v ∈ vs, ∀ g' m' I it, KtsTurn c.fs c.g g' → (c.turn g').Ok sc k → (c.turn g').V → (∀ y u, At y u m → (y == x) = false → At y u m') →
        (c.turn g').U (execs body (c.env sc)) (fun fl s' => fl = .next ∧ ∃ h' tk', s' = c.sh h' tk' ∧ Tn (c.turn g') ((x, v) :: m') ((I, it) :: μ) ι' h') ((x, v) :: m') ((I, it) :: μ) ι') ∧
      (∀ g' m', KtsTurn c.fs c.g g' → (c.turn g').Ok sc k → (c.turn g').V → (∀ y u, At y u m → (y == x) = false → At y u m') → (c.turn g').U (execs rest (c.env sc)) P m' μ ι')) m μ ι)
    (hx : sc.names.lookup x = some .local := by kernel_rfl) (hs : ∀ v, foldedSetIterable iter (c.env sc) v = pure v := by intro _; rfl) :
    c.U (execs (.For (.Name x px) iter body [] pos :: rest) (c.env sc)) P m μ ι := U.cons fun hp tk S => by
  refine For_invV (hideAll c.g [Lf]) (show (c.env sc).kindOf x = some .local from hx) (by show (sc.kind == .class || (sc.kind == .module && _)) = false; rw [O.kind]; rfl) (W.open (hi.run hp tk S) fun v h' tk' m' μ' ι' S' q => ?_) hs O.pass
  refine oEAAAA q ?_; clear q; intro vs hl zo2 zo3 turn next; obtain rfl := zo2; obtain rfl := zo3
  refine oEEAAAE hl.ex fun ax lo zo2 hax hc n hd => ?_; obtain rfl := zo2
  refine oEA (Tn.hide hf O (Tn.of O V S')) fun o hO SH => ?_
  refine oEA SH.F fun mf F hm => ?_
  refine iter_listUnr (s := c.sh h' tk') (lo := lo) O.handled F SH.N (.tail _ (List.mem_append.mpr (.inr hax))) hc hd fun I lt => ?_
  refine forList (hp := h') (tk := tk') hf O V hax (fun o' p hp => Nat.ne_of_lt (lt (p.1, if p.1 = Lf then o else p.2) ?_)) vs m' mf o (fun v hv g' m₂ it T O' V' ha => turn v hv g' m₂ I it T O' V' ha) (fun h tk m₂ ha T => ?_) (fun _ _ a _ => a) hm hO SH.D
  · rcases List.mem_cons.mp hp with rfl | hp
    · simp
    · have := (Apart.ne (μ₁ := []) SH.D).2 p hp
      rw [if_neg this]
      exact .tail _ hp
  · refine oEAAA T ?_; clear T; intro g' T B V' S2
    exact next g' m₂ T (O.turn V B) V' ha h tk S2
end
section
variable {c : Cx} {sc scope : Scope} {m : Lc} {μ ι ρ : Led} {k : Nat} {Lf : Addr} {h : Heap}
theorem compN {x fn : Str} {p1 p2 p3 p4 p5 : Pos} {k' j : Nat} {elt : Expr} {vs : List Value} {f : Addr} {P : List Env → Prop} {ax : Addr} {lo : Obj} {hp : Heap} {tk : Nat} {Fin : List Value → List (Addr × Obj) → Prop}
    (hf : c.fs = [Lf]) (O : c.Ok sc k) (V : c.V) (hP : P c.outer) (hj : j ≤ k) (sp : ∀ v ∈ vs, TSpec j f [v] ι (fun r => r = .none) P) (gf : GlobF fn (.ref f)) (kf : KeepF (.ref f)) (hax : (ax, lo) ∈ ι) (hlo : LObj lo vs)
    (hk : (relabel scope (c.env sc)).kind = .function) (hx : (relabel scope (c.env sc)).names.lookup x = some .local) (hfn : (relabel scope (c.env sc)).names.lookup fn = some .globalImplicit) (hd : (x == ("__debug__" : Str)) = false) (hdf : (fn == ("__debug__" : Str)) = false)
    (next : ∀ o, FrO c Lf o → Apart ((Lf, o) :: μ) ι → Fin [] ((Lf, o) :: (μ ++ ι))) :
    ∀ n i (mf : Str → Option Value) (o : Obj), (∀ x v, At x v m → mf x = some v) → FrO c Lf o → Apart ((Lf, o) :: μ) ι →
      LCt.CompRestT c.prog c.w c.A (hideAll c.g [Lf]) c.L mf (c.env sc) (.Compare (.Call (.Name fn p1) [.Name x p2] [] p3) [.IsNot] [.Constant .none k' p4] p5) elt x scope [] (c.sh hp tk) (LCg.SrcAt (hideAll c.g [Lf]) ax vs.toArray) (fun i v => vs.toArray[i]? = some v) Fin n i [] ((Lf, o) :: (μ ++ ι))
  | 0, i, mf, o, _, hO, D => .zero (next o hO D)
  | n + 1, i, mf, o, hm, hO, D => .succ fun v I oI C oC DD m₂ h tk' E' hv hC hx' F N off ne => by
    have hv' : v ∈ vs := by
      have : vs[i]? = some v := by simpa using hv
      exact List.mem_of_getElem? this
    have off' := off.mem
    have hmem : ∀ p, p ∈ ((Lf, o) :: (I, oI) :: (C, oC) :: (DD, LCg.lst []) :: μ) ++ ι → p ∈ (I, oI) :: (C, oC) :: (DD, LCg.lst []) :: (Lf, o) :: (μ ++ ι) := fun p hp => by
      simp only [List.mem_append, List.mem_cons, List.cons_append, List.nil_append] at hp ⊢
      rcases hp with q | q | q | q | q | q <;> simp [q]
    have aD : Apart ((Lf, o) :: (DD, LCg.lst []) :: μ) ι := Apart.insert (own := [(Lf, o)]) D fun q hq => (off' q (by simpa using hq)).2.2
    have aC : Apart ((Lf, o) :: (C, oC) :: (DD, LCg.lst []) :: μ) ι := Apart.insert (own := [(Lf, o)]) aD fun q hq => by
      simp only [List.mem_append, List.mem_cons, List.cons_append, List.nil_append] at hq
      rcases hq with rfl | rfl | q1 | q1
      · exact (off' _ (.head _)).2.1
      · exact Ne.symm ne.2.2
      · exact (off' _ (.tail _ (List.mem_append.mpr (.inl q1)))).2.1
      · exact (off' _ (.tail _ (List.mem_append.mpr (.inr q1)))).2.1
    have aI : Apart ((Lf, o) :: (I, oI) :: (C, oC) :: (DD, LCg.lst []) :: μ) ι := Apart.insert (own := [(Lf, o)]) aC fun q hq => by
      simp only [List.mem_append, List.mem_cons, List.cons_append, List.nil_append] at hq
      rcases hq with rfl | rfl | rfl | q1 | q1
      · exact (off' _ (.head _)).1
      · exact Ne.symm ne.1
      · exact Ne.symm ne.2.1
      · exact (off' _ (.tail _ (List.mem_append.mpr (.inl q1)))).1
      · exact (off' _ (.tail _ (List.mem_append.mpr (.inr q1)))).1
    refine oEAAA (Tn.unhide (μ := (I, oI) :: (C, oC) :: (DD, LCg.lst []) :: μ) hf O V (o := o) (m := m) (h := h) ⟨⟨mf, F, hm⟩, fun p hp => N p (hmem p hp), aI⟩ hO) fun g' T B V' S' => ?_
    have O' := O.turn V B
    refine oEA S'.F fun mf' F0 hm' => ?_
    have F' : Fr g' c.L h mf := ⟨F.ns, F0.keep, F0.above⟩
    have gf0 := gf
    have kf0 := kf
    refine oEA gf.ex fun K X gf => ?_
    refine oEA kf.ex fun K' X' kf => ?_
    refine wpAny_isTrue_Compare1 ?_ rfl
    refine Call_ (LCgL.ld_global (h₀ := g') (L := c.L) F' (X _ _ O'.inK) O'.top (gf _) ?_ rfl hk hfn hdf) rfl
    refine callWith_K (X' _ _ O'.inK) (kf _) (args_cons (LCgL.ld_own S'.N (.tail _ (.head _)) hC hx' (args_nil ⟨X' _ _ (TH.keeps F'.keep O'.inK), wpAny_call ?_⟩) hk hx hd) rfl)
    refine (sp v hv').run (c.turn g') sc (O'.less hj) V' hP mf _ _ h tk' ⟨F', S'.N, S'.D⟩ fun r h₂ tk₂ g₂ hr T₂ B₂ V₂ S₂ => ?_
    obtain rfl := hr
    refine wpAny_Constant_none (wpAny_isNot_plain rfl (wpAny_truthy_bool ?_))
    refine (if_neg (by decide)).mpr ?_
    refine oEA (Tn.hide (m := m) hf O (Tn.trans T ⟨g₂, T₂, B₂, V₂, ⟨mf, S₂.F, hm⟩, S₂.N, S₂.D⟩)) fun o' hO' S3 => ?_
    refine oEA S3.F fun mf3 F3 hm3 => ?_
    have F4 : Fr (hideAll c.g [Lf]) c.L h₂ mf := ⟨S₂.F.ns, F3.keep, F3.above⟩
    have d1 := Apart.freeze (μ₁ := [(Lf, o')]) S3.D
    have d2 := Apart.freeze (μ₁ := [(Lf, o')]) (μ₂ := (DD, LCg.lst []) :: μ) ⟨d1.1, fun p hp q hq => d1.2 p hp q (.tail _ hq)⟩
    have d3 := Apart.freeze (μ₁ := [(Lf, o')]) (μ₂ := μ) ⟨d2.1, fun p hp q hq => d2.2 p hp q (.tail _ hq)⟩
    have D3 : Apart ((Lf, o') :: μ) ι := ⟨d3.1, fun p hp q hq => d3.2 p hp q (.tail _ hq)⟩
    refine LCg.CompEnd.intro (s₁ := c.sh h tk') (h' := h₂) (tk := tk₂) F4 S3.N ((Lf, o') :: (μ ++ ι)) (fun p hp => ?_) (LCg.Off3.of fun q hq => ?_) (.inr ⟨lo, .tail _ (List.mem_append.mpr (.inr hax)), hlo.1, hlo.2⟩) (compN hf O V hP hj sp gf0 kf0 hax hlo hk hx hfn hd hdf next n (i + 1) mf o' hm hO' D3)
    · simp only [List.mem_append, List.mem_cons, List.cons_append, List.nil_append] at hp ⊢
      rcases hp with q | q | q | q | q | q <;> simp [q]
    · have z := off' (q.1, if q.1 = Lf then o else q.2) (by
        rcases List.mem_cons.mp hq with rfl | hq
        · simp
        · rw [if_neg ((Apart.ne (μ₁ := []) D).2 q hq)]; exact .tail _ hq)
      exact z
theorem U.comp {x y fn : Str} {px py p1 p2 p3 p4 p5 pos : Pos} {k' j : Nat} {elt : Expr} {v : Value} {vs : List Value} {f : Addr} {P : List Env → Prop}
    (hf : c.fs = [Lf]) (O : c.Ok sc k) (V : c.V) (hP : P c.outer) (hj : j ≤ k) (a : At y v m) (hl : ListF ι v vs) (hsz : vs.length ≤ 1000) (sp : ∀ v ∈ vs, TSpec j f [v] ι (fun r => r = .none) P) (gf : GlobF fn (.ref f)) (kf : KeepF (.ref f))
    (hclos : closureFor scope (c.env sc) = pure [] := by with_unfolding_all rfl) (hcell : (scope.names.all fun y => decide (y.2 ≠ .cell)) = true := by kernel_rfl) (hkind : scope.kind = .function := by with_unfolding_all rfl)
    (hnames : (scope.names.all fun y => decide (y.2 = .local → scope.names.lookup y.1 = some .local)) = true := by kernel_rfl) (hx : scope.names.lookup x = some .local := by kernel_rfl)
    (hk' : (relabel scope (c.env sc)).kind = .function := by with_unfolding_all rfl) (hx' : (relabel scope (c.env sc)).names.lookup x = some .local := by with_unfolding_all rfl) (hfn : (relabel scope (c.env sc)).names.lookup fn = some .globalImplicit := by with_unfolding_all rfl) (hd : (x == ("__debug__" : Str)) = false := by kernel_rfl) (hdf : (fn == ("__debug__" : Str)) = false := by kernel_rfl)
    (hy : sc.names.lookup y = some .local := by kernel_rfl) (hdy : (y == ("__debug__" : Str)) = false := by kernel_rfl) :
    c.U (eval (.ListComp elt [⟨.Name x px, .Name y py, [.Compare (.Call (.Name fn p1) [.Name x p2] [] p3) [.IsNot] [.Constant .none k' p4] p5], 0⟩] scope pos) (c.env sc)) (fun r s' => ∃ D h' tk', r = .ref D ∧ s' = c.sh h' tk' ∧ Tn c m μ ((D, LCg.lst []) :: ι) h') m μ ι := fun hp tk S => by
  refine oEA (Tn.hide hf O (Tn.of O V S)) fun o hO SH => ?_
  refine oEA SH.F fun mf F hm => ?_
  refine oEEAA hl.ex fun ax lo zo2 hax hlo => ?_; obtain rfl := zo2
  refine LCt.ListComp_T (s := c.sh hp tk) (cl := []) F hclos (fun y hy => of_decide_eq_true (List.all_eq_true.mp hcell y hy)) hkind (fun y hy => of_decide_eq_true (List.all_eq_true.mp hnames y hy)) hx ?_
  refine nameX_L (cl := []) F (hm _ _ a) (.inl ⟨ax, vs.toArray, (Lf, o) :: (μ ++ ι), rfl, O.handled, F, SH.N, .inr ⟨lo, .tail _ (List.mem_append.mpr (.inr hax)), hlo.1, hlo.2⟩, by rw [List.size_toArray, sizeLine_eq]; walk_at "o", fun s₂ hs₂ => ?_⟩) O.kind hy hdy
  obtain ⟨g, rfl⟩ := hs₂
  have z := compN (scope := scope) (μ := μ) (hp := g) (tk := tk) (elt := elt) (k' := k') (p1 := p1) (p2 := p2) (p3 := p3) (p4 := p4) (p5 := p5) (x := x) (Fin := LCg.FinE (hideAll c.g [Lf]) c.L mf (c.sh g tk) (fun r s' => ∃ D h' tk', r = .ref D ∧ s' = c.sh h' tk' ∧ Tn c m μ ((D, LCg.lst []) :: ι) h')) hf O V hP hj sp gf kf hax hlo hk' hx' hfn hd hdf (fun o hO D => fun D' h tk' F' N' off => ?_) vs.length 0 mf o hm hO SH.D
  · simpa using z
  · refine ⟨D', h, tk', rfl, rfl, Tn.unhide hf O V (o := o) ⟨⟨mf, F', hm⟩, fun p hp => N' p ?_, ?_⟩ hO⟩
    · simp only [List.mem_append, List.mem_cons, List.cons_append, List.nil_append] at hp ⊢
      rcases hp with q | q | q | q <;> simp [q]
    · refine ⟨D.1, fun q hq r hr => ?_⟩
      rcases List.mem_cons.mp hr with rfl | hr
      · refine off1_mem off q ?_
        rcases List.mem_cons.mp hq with rfl | hq
        · exact .head _
        · exact .tail _ (List.mem_append.mpr (.inl hq))
      · exact D.2 q hq r hr
end
theorem XSpec.more {k j : Nat} {f : Addr} {vs : List Value} {μ ι : Led} (s : XSpec k f vs μ ι) (h : k ≤ j) : XSpec j f vs μ ι := .mk fun c sc O => s.run c sc (O.less h)
theorem Rd.at_eq {R : Rd} {ws : List Value} (h : R.ws = ws) (i : Nat) : R.at i = ws[i]?.getD R.e := by unfold Rd.at; rw [h]
theorem Rd.seg {R : Rd} {pre ws post : List Value} (h : R.ws = pre ++ (ws ++ post)) : Seg R pre.length ws := ⟨pre, post, h, rfl⟩
abbrev ReadN (ι : Led) (wl : Value) : Prop := TSpec 15 1022 [wl] ι (fun r => r = .none) (fun _ => True)
section
variable {ι : Led} {wl va vm v1 vc vt vp : Value} {u : Tok} {t : Str} {x : Value}
theorem part_a (wa : WordV ι va s_var s_a .none) : RPart 10 1 ι [va] (.tuple [.str s_pvar, .str s_a]) := (part_atom (by decide) (atom_var wa) (.inl ⟨_, _, _, _, _, rfl, wa, by kernel_rfl!⟩)).more (by decide) (by decide)
theorem read1 (hl : ListF ι wl [vm, va]) (wm : WordV ι vm s_varsym h_12 .none) (wa : WordV ι va s_var s_a .none) : ReadN ι wl :=
  law_readX (by decide) hl (Nat.le_of_ble_eq_true (by kernel_rfl!)) fun R ι' μ' s e ok we h =>
    have e0 : R.at 0 = vm := Rd.at_eq e 0
    have e1 : R.at 1 = va := Rd.at_eq e 1
    have wm' : WordV ι' (R.at 0) s_varsym h_12 .none := e0 ▸ wm.mono s
    have wa' : WordV ι' (R.at 1) s_var s_a .none := e1 ▸ wa.mono s
    (patX0 (by decide) h ok wm' fun ι'' s'' => part_negX h (ok.mono s'') (wm'.mono s'') (by rw [e]; exact Nat.le_of_ble_eq_true (by kernel_rfl!)) (wa'.mono s'') (by kernel_rfl!) (by decide)).more (by decide)
theorem read4 (hl : ListF ι wl [vm]) (wm : WordV ι vm s_varsym h_12 .none) : ReadN ι wl :=
  law_readX (by decide) hl (Nat.le_of_ble_eq_true (by kernel_rfl!)) fun R ι' μ' s e ok we h =>
    have e0 : R.at 0 = vm := Rd.at_eq e 0
    have e1 : R.at 1 = R.e := Rd.at_eq e 1
    have wm' : WordV ι' (R.at 0) s_varsym h_12 .none := e0 ▸ wm.mono s
    have we' : WordV ι' (R.at 1) s_end h_nil .none := e1 ▸ we
    (patX0 (by decide) h ok wm' fun ι'' s'' => part_negX h (ok.mono s'') (wm'.mono s'') (by rw [e]; exact Nat.le_of_ble_eq_true (by kernel_rfl!)) (we'.mono s'') (by kernel_rfl!) (by decide)).more (by decide)
theorem read5 (hl : ListF ι wl [vc, va]) (wc : WordV ι vc s_op h_10 .none) : ReadN ι wl :=
  law_readX (by decide) hl (Nat.le_of_ble_eq_true (by kernel_rfl!)) fun R ι' μ' s e ok we h =>
    have e0 : R.at 0 = vc := Rd.at_eq e 0
    have wc' : WordV ι' (R.at 0) s_op h_10 .none := e0 ▸ wc.mono s
    (patX0 (K := 10) (by decide) h ok wc' fun ι'' s'' => part_atomX (by decide) h (ok.mono s'') (wc'.mono s'') (by kernel_rfl!) (by kernel_rfl!) (.inl (by kernel_rfl!)) fun ι3 μ3 s3 h3 => atomX h3 (ok.mono (Sub.trans s'' s3)) (wc'.mono (Sub.trans s'' s3)) (by kernel_rfl!) (by decide)).more (by decide)
theorem read2 (hl : ListF ι wl [va, vc]) (wa : WordV ι va s_var s_a .none) (wc : WordV ι vc s_op h_10 .none) : ReadN ι wl :=
  law_readX (by decide) hl (Nat.le_of_ble_eq_true (by kernel_rfl!)) fun R ι' μ' s e ok we h =>
    have e1 : R.at 1 = vc := Rd.at_eq e 1
    have e2 : R.at 2 = R.e := Rd.at_eq e 2
    have wc' : WordV ι' (R.at 1) s_op h_10 .none := e1 ▸ wc.mono s
    have we' : WordV ι' (R.at 2) s_end h_nil .none := e2 ▸ we
    (patX1 (K := 10) (pw := [va]) (by decide) h ok (part_a (wa.mono s)) (Rd.seg (pre := []) (post := [vc]) e) wc' (by kernel_rfl!) (by kernel_rfl!) fun ι2 μ2 s2 h2 => .inr ⟨[vc], _, Rd.seg (pre := [va]) (post := []) e, .colon (wc.mono s), fun ι3 μ3 s3 h3 =>
      have s23 := Sub.trans s2 s3
      part_atomX (by decide) h3 (ok.mono s23) (we'.mono s23) (by kernel_rfl!) (by kernel_rfl!) (.inl (by kernel_rfl!)) fun ι4 μ4 s4 h4 => atomX h4 (ok.mono (Sub.trans s23 s4)) (we'.mono (Sub.trans s23 s4)) (by kernel_rfl!) (by decide)⟩).more (by decide)
theorem read3 (hl : ListF ι wl [va, vt, va, vt, va]) (wa : WordV ι va s_var s_a .none) (wt : WordV ι vt s_special h_11 .none) : ReadN ι wl :=
  law_readX (by decide) hl (Nat.le_of_ble_eq_true (by kernel_rfl!)) fun R ι' μ' s e ok we h =>
    have e1 : R.at 1 = vt := Rd.at_eq e 1
    have e2 : R.at 2 = va := Rd.at_eq e 2
    have wt' : WordV ι' (R.at 1) s_special h_11 .none := e1 ▸ wt.mono s
    have wa' : WordV ι' (R.at 2) s_var s_a .none := e2 ▸ wa.mono s
    (patX1 (K := 10) (pw := [va]) (by decide) h ok (part_a (wa.mono s)) (Rd.seg (pre := []) (post := [vt, va, vt, va]) e) wt' (by kernel_rfl!) (by kernel_rfl!) fun ι2 μ2 s2 h2 => .inl (operX h2 (ok.mono s2) (wt'.mono s2) (by rw [e]; exact Nat.le_of_ble_eq_true (by kernel_rfl!)) (wa'.mono s2) (by kernel_rfl!) (by decide))).more (by decide)
theorem read6 (hl : ListF ι wl [vp, va]) (wp : WordV ι vp s_special h_13 .none) (wa : WordV ι va s_var s_a .none) : ReadN ι wl :=
  law_readX (by decide) hl (Nat.le_of_ble_eq_true (by kernel_rfl!)) fun R ι' μ' s e ok we h =>
    have e0 : R.at 0 = vp := Rd.at_eq e 0
    have e1 : R.at 1 = va := Rd.at_eq e 1
    have e2 : R.at 2 = R.e := Rd.at_eq e 2
    have wp' : WordV ι' (R.at 0) s_special h_13 .none := e0 ▸ wp.mono s
    have wa' : WordV ι' (R.at 1) s_var s_a .none := e1 ▸ wa.mono s
    have we' : WordV ι' (R.at 2) s_end h_nil .none := e2 ▸ we
    patX0 (K := 13) (by decide) h ok wp' fun ι'' s'' => part_atomX (by decide) h (ok.mono s'') (wp'.mono s'') (by kernel_rfl!) (by kernel_rfl!) (.inr ⟨by rw [e]; exact Nat.le_of_ble_eq_true (by kernel_rfl!), _, _, _, wa'.mono s'', by kernel_rfl!⟩) fun ι3 μ3 s3 h3 =>
      have s13 := Sub.trans s'' s3
      atomBracX (K := 11) (by decide) h3 (ok.mono s13) (wp'.mono s13) (by rw [e]; exact Nat.le_of_ble_eq_true (by kernel_rfl!)) fun ι4 μ4 p s4 h4 =>
        have s14 := Sub.trans s13 s4
        bracX (K := 9) (J := 3) (pw := [va]) (by decide) h4 (ok.mono s14) ((pat_of (K := 8) (J := 1) (ts := []) (by decide) (by decide) (((part_atom (by decide) (atom_var (wa.mono (Sub.trans s s14))) (.inl ⟨_, _, _, _, _, rfl, wa.mono (Sub.trans s s14), by kernel_rfl!⟩))).more (by decide) (by decide)) (fun t h => nomatch h) (by decide))) (Rd.seg (pre := [vp]) (post := []) e) (we'.mono s14) (by kernel_rfl!) (by kernel_rfl!) (by decide)
end
section
variable {c : Cx} {sc : Scope} {m : Lc} {μ ι ρ : Led} {k : Nat}
theorem W.negI {e : Expr} {pos : Pos} {Q : Po Value} (h : c.W (eval e (c.env sc)) (fun v m μ ι => ∃ i t, v = .int i t ∧ ∀ u, Q (.int (-i) u) m μ ι) m μ ι) : c.W (eval (.UnaryOp .USub e pos) (c.env sc)) Q m μ ι := .mk fun hp tk S =>
  wpAny_UnaryOp (W.open (h.run hp tk S) fun v h' tk' m' μ' ι' S' q => by refine oEEA q ?_; clear q; intro i t zo2 q; obtain rfl := zo2; exact PyProof.Rows.neg_int (S'.same (q _)))
theorem U.retNone {lc : Expr} {p1 p2 p3 : Pos} {P : Flow → Shared → Prop} (O : c.Ok sc k) (h : c.U (eval lc (c.env sc)) (fun r s' => ∃ D h' tk', r = .ref D ∧ s' = c.sh h' tk' ∧ Tn c m μ ((D, LCg.lst []) :: ι) h') m μ ι)
    (q : ∀ ιx h tk m, Sub ι ιx → Tn c m μ ιx h → P (.ret (.bool true)) (c.sh h tk)) : c.U (execs [.Return (some (.Compare lc [.Eq] [.List [] p1] p2)) p3] (c.env sc)) P m μ ι := U.cons fun hp tk S => by
  refine wpAny_Return_some (wpAny_Compare1 (wpAny_mono (h hp tk S) (fun r s' x => ?_) fun _ _ x => x) rfl)
  refine oEEEAAEAAA x ?_; clear x; intro D h' tk' zo3 zo4 g2 T2 B2 V2 S2; obtain rfl := zo3; obtain rfl := zo4
  have z : (c.turn g2).W (eval (.List [] p1) ((c.turn g2).env sc)) (fun v m' μ' ι' => m' = m ∧ μ' = μ ∧ ∃ l, v = .ref l ∧ ι' = (l, listOf #[] 0) :: (D, LCg.lst []) :: ι) m μ ((D, LCg.lst []) :: ι) :=
    W.list (W.args0 (W.listI (by decide) fun l => ⟨rfl, rfl, l, rfl, rfl⟩))
  refine W.open (c := c.turn g2) (z.run h' tk' S2) fun v h₂ tk₂ m' μ' ι' S' y => ?_
  refine oAAEA y ?_; clear y; intro zo0 zo1 l zo3 zo4; obtain rfl := zo0; obtain rfl := zo1; obtain rfl := zo3; obtain rfl := zo4
  refine eq_dataH (da := .list []) (db := .list []) (.list (S'.N _ (List.mem_append.mpr (.inr (.tail _ (.head _))))).1 rfl rfl .nil) (.list (S'.N _ (List.mem_append.mpr (.inr (.head _)))).1 rfl rfl .nil) (by kernel_rfl!) (by kernel_rfl!) (by have := O.units; show c.A.units + 64 < _; walk_at "o") ?_
  exact q _ h₂ tk₂ m' (fun p hp => .tail _ (.tail _ hp)) ⟨g2, T2, B2, V2, S'⟩
end
noncomputable abbrev rowA : PyData := .tuple [.str s_pvar, .str s_a]
noncomputable abbrev rowM : PyData := .tuple [.str s_plit, .str s_int, .int (-1)]
noncomputable abbrev rowC : PyData := .tuple [.str s_op, .str h_10, .bool true]
noncomputable abbrev rowW : PyData := .tuple [.str s_pinfix, .tuple [rowA, rowC, rowM]]
theorem fixed_right {ι : Led} : TSpec 39 1034 [] ι (fun r => r = .bool true) (fun l => l = []) := by
  refine' TSpec.intro (k := 38) (loc := []) hd.z1034 hd.z1033 ?ho ?hob ?hco' ?hcd ?hbind ?hloc ?hco ?hgen ?hk ?hcell ?hb
  walk_at "M.fn"
  intro c ρ a e l hl ho hfr O V hA hE
  subst hl
  have hf : c.fs = [a] := by show List.filterMap _ c.outer = _; rw [ho]; simp [hfr]
  refine U.app (ss := [_, _]) (rest := _ :: _) ?_
  refine W.asgSwap (names := [s_a, s_minus, s_one]) O ?_
  walk_at "ry"
  rename_i _ _ _ _ va ι1 s1 Ia _ _ _ _ vm ι2 s2 Im _ _ _ _ u1 v1 ι3 s3 I1 tv ι4 s4 ht
  have wa4 : WordV ι4 va s_var s_a .none := by walk_at "M.word"
  have wm4 : WordV ι4 vm s_varsym h_12 .none := by walk_at "M.word"
  have w14 : WordV ι4 v1 s_int h_26 (.int 1 u1) := by walk_at "M.word"
  have s14 : Sub ι ι4 := by walk_at "M.sub"
  refine ⟨_, ht, rfl, ?_⟩
  show c.W _ _ [(s_a, va), (s_minus, vm), (s_one, v1)] ρ ι4
  refine W.asgSwap (names := [s_cons, s_tick, s_con]) O ?_
  walk_at "ry"
  rename_i _ _ _ _ vc ι5 s5 Ic _
  refine W.c_sign O (by decide) fun vt ι6 s6 wt => ?_
  walk_at "ry"
  rename_i _ _ _ _ vn ι7 s7 In tv2 ι8 s8 ht2
  have wc8 : WordV ι8 vc s_op h_10 .none := by walk_at "M.word"
  have wn8 : WordV ι8 vn s_con s_Cat .none := by walk_at "M.word"
  have wt8 : WordV ι8 vt s_special h_11 .none := wt.mono (by walk_at "M.sub")
  have s48 : Sub ι4 ι8 := by walk_at "M.sub"
  have wa8 := wa4.mono s48
  have wm8 := wm4.mono s48
  have w18 := w14.mono s48
  have s18 := Sub.trans s14 s48
  clear Ia Im I1 Ic In wa4 wm4 w14 wt s1 s2 s3 s4 s5 s6 s7 s8
  refine ⟨_, ht2, rfl, ?_⟩
  show c.W _ _ [(s_cons, vc), (s_tick, vt), (s_con, vn), (s_a, va), (s_minus, vm), (s_one, v1)] ρ ι8
  refine W.execs_nil ⟨rfl, ?_⟩
  refine U.forL hf O V ?_
  walk_at "ry"
  refine W.c_sign O (by decide) fun vp ι9 s9 wp => ?_
  walk_at "ry"
  rename_i l1 j1 q1 hl1 l2 j2 q2 hl2 l3 j3 q3 hl3 l4 j4 q4 hl4 l5 j5 q5 hl5 _ l6 j6 q6 hl6 ll j7 q7 hll
  have s8x : Sub ι8 j7 := by walk_at "M.sub"
  have wax := wa8.mono s8x
  have wmx := wm8.mono s8x
  have wcx := wc8.mono s8x
  have wtx := wt8.mono s8x
  have hr : ∀ v ∈ [l1, l2, l3, l4, l5, l6], ReadN j7 v := fun v hv => by
    simp only [List.mem_cons, List.mem_nil_iff, or_false] at hv
    rcases hv with rfl | rfl | rfl | rfl | rfl | rfl
    · exact read1 (by walk_at "M.fact") wmx wax
    · exact read2 (by walk_at "M.fact") wax wcx
    · exact read3 (by walk_at "M.fact") wax wtx
    · exact read4 (by walk_at "M.fact") wmx
    · exact read5 (by walk_at "M.fact") wcx
    · exact read6 (by walk_at "M.fact") (wp.mono (by walk_at "M.sub")) wax
  have w1x := w18.mono s8x
  have wnx := wn8.mono s8x
  have six := Sub.trans s18 s8x
  clear hl1 hl2 hl3 hl4 hl5 hl6 q1 q2 q3 q4 q5 q6 q7 s9 wa8 wm8 wc8 wt8 w18 wn8 wp
  refine ⟨_, hll, rfl, rfl, fun v hv g' m' I it T O' V' hm' => U.ifNone O' V' trivial (by decide) (hr v hv) (gF .law_read) (kF .law_read) .here (by kernel_rfl) (by kernel_rfl) (by kernel_rfl) (by kernel_rfl), fun g' m' T O' V' hm' => ?_⟩
  have aa : At s_a va m' := hm' _ _ (by walk_at "M.at") (by kernel_rfl!)
  have am : At s_minus vm m' := hm' _ _ (by walk_at "M.at") (by kernel_rfl!)
  have ao : At s_one v1 m' := hm' _ _ (by walk_at "M.at") (by kernel_rfl!)
  have ac : At s_cons vc m' := hm' _ _ (by walk_at "M.at") (by kernel_rfl!)
  have an : At s_con vn m' := hm' _ _ (by walk_at "M.at") (by kernel_rfl!)
  have hf2 : (c.turn g').fs = [a] := hf
  have hend : ∀ ιx h tk m, Sub ι ιx → Tn (c.turn g') m ρ ιx h → EndT c (ρ ++ ι) (fun r => r = .bool true) (.ret (.bool true)) ((c.turn g').sh h tk) := fun ιx h tk m s x => by
    refine oEAAA x ?_; clear x; intro g2 T2 B2 V2 S2
    refine oEA S2.F fun mf F2 _ => ?_
    exact ⟨h, tk, g2, mf, rfl, rfl, T.trans T2, F2, fun p hp => S2.N p (subP s p hp)⟩
  have ho2 : (c.turn g').outer = [e] := ho
  generalize EndT c (ρ ++ ι) (fun r => r = .bool true) = PP at hend ⊢
  change (c.turn g').U (execs _ ((c.turn g').env _)) _ _ _ _
  clear hm' hll hr
  revert O' V' hend hf2 ho2
  generalize c.turn g' = c2
  intro O' V' hf2 ho2 hend
  refine U.app (ss := [_, _, _, _, _, _, _]) (rest := [_]) ?_
  walk_at "ry"
  rename_i lw1 k1 r1 hw1
  refine W.callS (μ := []) (law_read (K := 9) (J := 9) (ws := [vn]) (tl := [vm, v1]) hw1 (Nat.le_of_ble_eq_true (by kernel_rfl!)) (.inr ⟨vm, [v1], _, _, _, rfl, wmx.mono r1, by kernel_rfl!⟩)
    (x := .tuple [.str s_pcon, .str s_Cat, .tuple []]) ((pat_of (K := 7) (J := 2) (pw := [vn]) (ts := []) (by decide) (by decide) (part_con (K := 6) (J := 0) (as := []) (by decide) (.con (wnx.mono r1) (.inl ⟨rfl, rfl⟩)) (fun a h => nomatch h) (by decide)) (fun t h => nomatch h) (by decide)).more (by decide) (by decide)) (by decide) (by decide)) O' (by decide) fun rr μ' k2 r2 g => ?_
  obtain ⟨hr1, rfl⟩ := g
  have hr1' : RowV k2 rr (.tuple [.tuple [.str s_pcon, .str s_Cat, .tuple []], .int 1]) := hr1
  walk_at "ry"
  refine W.neRow O' (hr1'.mono (by walk_at "M.sub")) (e := .tuple [.tuple [.str s_pcon, .str s_Cat, .tuple []], .int 1]) (by walk_at "M.rowv") (by kernel_rfl!) (by kernel_rfl!) (Nat.le_of_ble_eq_true (by kernel_rfl!)) (Nat.le_of_ble_eq_true (by kernel_rfl!)) ?_
  rw [PySem.SeqAt.eqv_refl _ (by kernel_rfl!)]
  walk_at "ry"
  rename_i lw2 k3 r3 hw2
  have s3 : Sub j7 k3 := by walk_at "M.sub"
  refine W.callS (μ := []) (law_read (K := 9) (J := 9) (ws := [vm, v1]) (tl := [vm]) hw2 (Nat.le_of_ble_eq_true (by kernel_rfl!)) (.inr ⟨vm, [], _, _, _, rfl, wmx.mono s3, by kernel_rfl!⟩)
    (x := rowM) ((pat_of (K := 7) (J := 2) (pw := [vm, v1]) (ts := []) (by decide) (by decide) ((part_neg (wmx.mono s3) (w1x.mono s3)).more (by decide) (by decide)) (fun t h => nomatch h) (by decide)).more (by decide) (by decide)) (by decide) (by decide)) O' (by decide) fun rr μ' k4 r4 g => ?_
  obtain ⟨hr2, rfl⟩ := g
  have hr2' : RowV k4 rr (.tuple [rowM, .int 2]) := hr2
  walk_at "ry"
  refine W.negI ?_
  walk_at "ry"
  refine ⟨_, _, rfl, fun u => ?_⟩
  walk_at "ry"
  refine W.neRow O' (hr2'.mono (by walk_at "M.sub")) (e := .tuple [rowM, .int 2]) (by walk_at "M.rowv") (by kernel_rfl!) (by kernel_rfl!) (Nat.le_of_ble_eq_true (by kernel_rfl!)) (Nat.le_of_ble_eq_true (by kernel_rfl!)) ?_
  rw [PySem.SeqAt.eqv_refl _ (by kernel_rfl!)]
  walk_at "ry"
  refine W.negI ?_
  walk_at "ry"
  refine ⟨_, _, rfl, fun u => ?_⟩
  walk_at "ry"
  rename_i vrow k5 r5 hrow0 lw3 k6 r6 hw3
  have hrow : RowV k5 vrow rowW := by walk_at "M.rowv"
  have s6 : Sub j7 k6 := by walk_at "M.sub"
  refine W.callS (μ := []) (law_read (K := 11) (J := 11) (ws := [va, vc, vm, v1]) (tl := []) hw3 (Nat.le_of_ble_eq_true (by kernel_rfl!)) (.inl rfl)
    (x := rowW) ((pat_of (K := 10) (J := 2) (pw := [va]) (ts := [⟨[vc], h_10, [vm, v1], rowM⟩]) (by decide) (by decide) ((part_a (wax.mono s6)).more (by decide) (by decide)) (fun t h => by
      rw [List.mem_singleton.mp h]
      exact ⟨.colon (wcx.mono s6), (part_neg (wmx.mono s6) (w1x.mono s6)).more (by decide) (by decide)⟩) (Nat.le_of_ble_eq_true (by kernel_rfl!))).more (by decide) (by decide)) (by decide) (by decide)) O' (by decide) fun rr μ' k7 r7 g => ?_
  obtain ⟨hr3, rfl⟩ := g
  have hr3' : RowV k7 rr (.tuple [rowW, .int 4]) := hr3
  have hrow7 := hrow.mono (Sub.trans r6 r7)
  walk_at "ry"
  refine W.neRow O' (hr3'.mono (by walk_at "M.sub")) (e := .tuple [rowW, .int 4]) (by walk_at "M.rowv") (by kernel_rfl!) (by kernel_rfl!) (Nat.le_of_ble_eq_true (by kernel_rfl!)) (Nat.le_of_ble_eq_true (by kernel_rfl!)) ?_
  rw [PySem.SeqAt.eqv_refl _ (by kernel_rfl!)]
  walk_at "ry"
  refine W.asgSwap (names := [s_less, s_more]) O' ?_
  walk_at "ry"
  rename_i vle k8 r8 Il _ vmo k9 r9 Imo tv3 k10 r10 ht3
  refine ⟨_, ht3, rfl, ?_⟩
  show c2.W _ _ ((s_less, vle) :: (s_more, vmo) :: (s_row, vrow) :: m') _ _
  have Il2 := Il.mono (by walk_at "M.sub" : Sub k8 k10)
  have Imo2 := Imo.mono (by walk_at "M.sub" : Sub k9 k10)
  have hrow10 := hrow7.mono (by walk_at "M.sub" : Sub k7 k10)
  have s10 : Sub j7 k10 := by walk_at "M.sub"
  clear hr1 hr1' hr2 hr2' hr3 hr3'
  walk_at "ry"
  rename_i tA xA k11 uA r11 IA tO xO k12 r12 IO tL1 tL2 xL k13 r13 IL xl k14 r14 hxl xI k15 r15 II
  have r1115 : Sub k11 k15 := by walk_at "M.sub"
  have r1215 : Sub k12 k15 := by walk_at "M.sub"
  have r1315 : Sub k13 k15 := by walk_at "M.sub"
  have r1015 : Sub k10 k15 := by walk_at "M.sub"
  refine W.callS (μ := []) (law_turned (K := 11) (J := 11) (x := rowW) ((exp_infix (K := 5) (J := 1) (us := [([xA], rowA), ([xO], rowC), ([vle, xL], rowM)]) (by decide) (by decide) II (hxl.mono r15)
    ⟨.inl ⟨_, rfl, exp_var (.inl rfl) (IA.mono r1115)⟩, ⟨_, _, _, _, rfl, IO.mono r1215, rfl⟩, .inr ⟨_, _, _, _, _, _, _, _, rfl, Il2.mono r1015, IL.mono r1315, rfl⟩, trivial⟩
    (Nat.le_of_ble_eq_true (by kernel_rfl!)) (Nat.le_of_ble_eq_true (by kernel_rfl!)) rfl).more (by decide) (by decide)) (by decide)) O' (by decide) fun rr μ' k16 r16 g => ?_
  obtain ⟨hr4, rfl⟩ := g
  have r1016 : Sub k10 k16 := Sub.trans r1015 r16
  have Il3 := Il2.mono r1016
  have Imo3 := Imo2.mono r1016
  have hrow16 := hrow10.mono r1016
  have s16 : Sub j7 k16 := Sub.trans s10 r1016
  clear r1115 r1215 r1315 r1015 II IL IO IA hxl r11 r12 r13 r14 r15 r16 Il2 Imo2 hrow10 s10
  walk_at "ry"
  refine W.neRow O' hr4 (e := rowW) hrow16 (by kernel_rfl!) (by kernel_rfl!) (Nat.le_of_ble_eq_true (by kernel_rfl!)) (Nat.le_of_ble_eq_true (by kernel_rfl!)) ?_
  rw [PySem.SeqAt.eqv_refl _ (by kernel_rfl!)]
  walk_at "ry"
  rename_i tA x1 k17 uA r17 I1 l1 k18 r18 hl1 w1 k19 r19 J1 tA2 x2 k20 uA2 r20 I2 tB x3 k21 uB r21 I3 l2 k22 r22 hl2 w2 k23 r23 J2 tf x4 k24 uf r24 I4 tA3 x5 k25 uA3 r25 I5 w3 k26 r26 J3 tM w4 k27 uM r27 J4 wl k28 r28 hwl
  refine ⟨rfl, U.retNone O' (U.comp (P := fun _ => True) (j := 10) hf2 O' V' trivial (by decide) .here hwl (Nat.le_of_ble_eq_true (by kernel_rfl!)) (fun v hv => ?_) (gF .law_turned) (kF .law_turned)) fun ιx h tk m s x => hend ιx h tk m (Sub.trans six (Sub.trans s16 (Sub.trans (by walk_at "M.sub" : Sub k16 k28) s))) x⟩
  simp only [List.mem_cons, List.mem_nil_iff, or_false] at hv
  rcases hv with rfl | rfl | rfl | rfl
  · have hx := fun ι' (s : Sub k28 ι') => infixX ((Il3.mono (by walk_at "M.sub" : Sub k16 k28)).mono s) ((I1.mono (by walk_at "M.sub" : Sub k17 k28)).mono s) (.inl rfl) (.inl ((hl1.mono (by walk_at "M.sub" : Sub k18 k28)).mono s)) (z := .none)
    exact law_turnedX fun ι' s => turnX_infix ((J1.mono (by walk_at "M.sub" : Sub k19 k28)).mono s) hl1.href fun ι'' s' => hx ι'' (Sub.trans s s')
  · have hx := fun ι' (s : Sub k28 ι') => infixX ((Imo3.mono (by walk_at "M.sub" : Sub k16 k28)).mono s) ((I2.mono (by walk_at "M.sub" : Sub k20 k28)).mono s) (.inl rfl) (.inr ((hl2.mono (by walk_at "M.sub" : Sub k22 k28)).mono s))
    exact law_turnedX fun ι' s => turnX_infix ((J2.mono (by walk_at "M.sub" : Sub k23 k28)).mono s) hl2.href fun ι'' s' => hx ι'' (Sub.trans s s')
  · have hx := fun ι' (s : Sub k28 ι') => appliedX (t1 := tf) ((J3.mono (by walk_at "M.sub" : Sub k26 k28)).mono s) ((I4.mono (by walk_at "M.sub" : Sub k24 k28)).mono s) (by refine oEEEEA I5.ex fun y _ _ _ zo4 _ => ?_; obtain rfl := zo4; rfl)
    exact law_turnedX fun ι' s => turnX_app ((J3.mono (by walk_at "M.sub" : Sub k26 k28)).mono s) fun ι'' s' => hx ι'' (Sub.trans s s')
  · exact law_turnedX fun ι' s => (turnX_var ((J4.mono (by walk_at "M.sub" : Sub k27 k28)).mono s)).more (by decide)
theorem W.callT {c : Cx} {sc : Scope} {m : Lc} {ρ ι : Led} {k j : Nat} {f : Addr} {vs : List Value} {R : Value → Prop} {P : List Env → Prop} {Q : Po Value} (s : TSpec j f vs ι R P) (O : c.Ok sc k) (V : c.V) (h : j ≤ k) (ho : c.outer = []) (hP : P []) (q : ∀ r, R r → Q r m ρ ι) :
    c.W (PySem.call (.ref f) vs) Q m ρ ι := .mk fun hp tk S => by
  refine oEA S.F fun mf F hm => ?_
  refine wpAny_call (s.run c sc (O.less h) V (by rw [ho]; exact hP) mf ρ _ hp tk ⟨F, S.N, S.D⟩ fun r h' tk' g' hr T B V' S' => ?_)
  have hfs : c.fs = [] := by show List.filterMap _ c.outer = []; rw [ho]; rfl
  have T' : ∀ b, g'.get? b = c.g.get? b := fun b => by
    cases e : c.g.get? b with
    | none => exact T.none_ b e
    | some o => exact T.other b o e (by rw [hfs]; exact fun z => nomatch z)
  have S₂ : St c m ρ ι h' := ⟨⟨mf, ⟨S'.F.ns, fun b o e => S'.F.keep b o ((T' b).trans e), by have := S'.F.above; show c.g.objs.size ≤ _; rw [← T.size]; exact this⟩, hm⟩, fun p hp => ⟨(S'.N p hp).1, (S'.N p hp).2.1, (T' _).symm.trans (S'.N p hp).2.2⟩, S.D⟩
  exact St.same S₂ (q r hr)
theorem law_run {c : Cx} {ρ ι : Led} {v : Value} {xs : List Value} (O : c.Ok hd.e_law 40) (V : c.V) (ho : c.outer = []) (hl : ListF ι v xs) (hx : ∀ x ∈ xs, ∃ n u, x = .int n u) (hn : xs.length < 1000) :
    c.W (execs hd.b_law (c.env hd.e_law)) (fun fl m' μ' ι' => Sub ι ι' ∧ retOf fl = .bool true) [(s_script, v)] ρ ι := by
  walk_at "rw"
  refine W.callT (fixed_right (ι := ι)) O V (by decide) ho rfl fun r hr => ?_
  subst hr
  have s1 : Sub ι ι := Sub.refl
  walk_at "rw"
  refine W.forRange (ρ := ρ) (fun i' m own ι' => At s_script v m ∧ Sub ι ι') O ?_
  walk_at "rw"
  refine W.len_ (hl.mono s1) (by walk_at "o") fun _ => ?_
  walk_at "rw"
  refine W.minI O fun _ => ?_
  walk_at "rw"
  refine W.maxI O fun _ => ?_
  walk_at "rw"
  obtain ⟨n, hn2, hv⟩ : ∃ n : Nat, n ≤ 2 ∧ (if (if (2:Int) < (xs.length:Int) then 2 else (xs.length:Int)) > 1 then (if (2:Int) < (xs.length:Int) then 2 else (xs.length:Int)) else 1) = (n:Int) := by
    by_cases h : (2:Int) < (xs.length:Int)
    · rw [if_pos h]; exact ⟨2, by walk_at "o", by decide⟩
    · rw [if_neg h]
      by_cases h1 : (xs.length:Int) > 1
      · rw [if_pos h1]; exact ⟨xs.length, by walk_at "o", rfl⟩
      · rw [if_neg h1]; exact ⟨1, by walk_at "o", rfl⟩
  refine W.range (j := n) hv fun vr ι2 s2 hr => ?_
  refine ⟨n, [], by walk_at "o", hr, rfl, ⟨by walk_at "M.at", s2⟩, ?_, ?_⟩
  · intro i' t m' own ι' ρ' hi' j
    obtain ⟨a1, s'⟩ := j
    have hl' := hl.mono (Sub.trans s1 s')
    walk_at "rw"
    refine W.callS (μ := []) (law_brook hl' hx hn (by walk_at "o")) O (by walk_at "o") fun rb μ3 ι3 s3 gb => ?_
    refine oEA gb ?_; clear gb; intro l zo1 hB; obtain rfl := zo1
    walk_at "rw"
    refine W.asgTup (es := [(s_words, _), (s_row, _), (s_items, _)]) O rfl ?_
    walk_at "rw"
    refine W.c_cup (many := 3) O hB (by decide) (by decide) (by walk_at "o") fun g u1 μ4 ι4 hg s4 hB4 => ?_
    walk_at "rw"
    refine W.callS ((built (1 + g) (by walk_at "o")).2.2 (by walk_at "o") hB4) O (by walk_at "o") fun rp μ5 ι5 s5 gp => ?_
    obtain ⟨gp, hB5⟩ := gp
    refine oEEEEEEEEA gp.ex fun wl rt il ws x us i0 x0 ht zz => ?_; refine oAAAAAAAAA zz ?_; clear zz; intro hws hrow rok hlen hil huo huh hur hun zz; refine oA zz ?_; clear zz; intro hus hpat
    have hLA : LA (1 + g) ≤ 82340 := LA_le3 (by walk_at "o")
    refine ⟨_, ht, rfl, ?_⟩
    show c.W _ _ ((s_items, il) :: (s_row, rt) :: (s_words, wl) :: _) _ _
    have hok : RowOk 24 x := rok.more (by unfold JA; walk_at "o")
    have hok2 : RowOk 25 (.tuple [x, .int (ws.length : Int)]) := .tuple fun y hy => by
      rcases List.mem_cons.mp hy with rfl | hy
      · exact hok
      · rw [List.mem_singleton.mp hy]; exact .int
    walk_at "rw"
    refine W.callS (μ := []) (ρ := μ5 ++ (own ++ ρ')) (law_read (K := 24) (J := 24) (tl := []) (hws.cast' (List.append_nil _).symm) (by rw [List.append_nil]; walk_at "o") (.inl rfl) (hpat.more (by unfold KA; walk_at "o") (by unfold JA; walk_at "o")) (by walk_at "o") (by walk_at "o")) O (by walk_at "o") fun rr μ6 ι6 s6 gr => ?_
    obtain ⟨hrr, rfl⟩ := gr
    walk_at "rw"
    refine W.len_ (hws.mono (by walk_at "M.sub")) (by walk_at "o") fun _ => ?_
    walk_at "rw"
    refine W.tup_ (by walk_at "M.sz") fun tv ι7 s7 htv => ?_
    refine W.neRow O (hrr.mono s7) (.tupF htv (.cons (hrow.mono (by walk_at "M.sub")) (.cons (.int _ _) .nil))) hok2.1 hok2.1 (Nat.le_trans hok2.2 (by decide)) (Nat.le_trans hok2.2 (by decide)) ?_
    rw [PySem.SeqAt.eqv_refl _ hok2.1]
    walk_at "rw"
    refine W.tup_ (by walk_at "M.sz") fun tw ι8 s8 htw => ?_
    walk_at "rw"
    refine W.c_whole O (by unfold EA; walk_at "o") (by unfold JA; walk_at "o") htw (hil.mono (by walk_at "M.sub")) (huo.mono (by walk_at "M.sub")) huh hun hus (by walk_at "o") fun ev ι9 s9 hev => ?_
    walk_at "rw"
    rw [hur] at hev
    refine W.callS (μ := []) (law_turned (K := 25) (J := 24) (hev.more (by unfold EA; walk_at "o") (by unfold JA; walk_at "o")) (by walk_at "o")) O (by walk_at "o") fun r2 μ10 ι10 s10 g2 => ?_
    obtain ⟨hr2, rfl⟩ := g2
    walk_at "rw"
    refine W.neRow O hr2 (hrow.mono (by walk_at "M.sub")) hok.1 hok.1 (Nat.le_trans hok.2 (by decide)) (Nat.le_trans hok.2 (by decide)) ?_
    rw [PySem.SeqAt.eqv_refl _ hok.1]
    walk_at "rw"
    exact ⟨rfl, μ5 ++ own, by simp, by walk_at "M.at", by walk_at "M.sub"⟩
  · intro m' own ι' j
    obtain ⟨a1, s'⟩ := j
    walk_at "rw"
    exact ⟨s', rfl⟩
def Down (h h' : Heap) (l : Addr) (its : Array Value) : Prop := ∀ b o, h'.get? b = some o → (b = l ∧ o = { cls := .type "list", data := .seq its }) ∨ h.get? b = some o
theorem script_down {R : WRecords} {w : World} {s₀ s₁ : Shared} {ns : List Int} {a : Addr} {as : List Addr} {its : Array Value} (L : W.Laid R w s₀ s₁ [ofPy (PyData.list (ns.map PyData.int))] [.ref a] as) (hL : s₁.heap.IsList a its) : Down s₀.heap s₁.heap a its := by
  have z := X.script_obj L hL
  obtain ⟨ha, hs⟩ := X.script_at L
  refine oEA L.laid fun ord _ e => ?_
  simp only [ofPy, layAllW, layW] at e
  cases q : layAllW R (classAt s₀.heap) w.params ord (ofPys (List.map PyData.int ns)) s₀ with
  | none => rw [q] at e; cases e
  | some r =>
    rw [q] at e
    have hh := X.lay_ints ns s₀ r q
    simp only [Option.some.injEq, Prod.mk.injEq, List.cons.injEq, Value.ref.injEq] at e
    obtain ⟨⟨ea, _⟩, es⟩ := e
    intro b o hb
    have hb' := hb
    rw [← es] at hb
    rcases Heap.get?_push_cases hb with ⟨e1, _⟩ | e1
    · left
      have e2 : b = a := e1.trans ea
      subst e2
      rw [z] at hb'
      cases hb'; exact ⟨rfl, rfl⟩
    · right; rw [← hh]; exact e1
section
variable {h h' : Heap} {l : Addr} {its : Array Value}
theorem Down.ns (D : Down h h' l its) {a : Addr} {m : Str → Option Value} (x : h'.Ns a m) : h.Ns a m := by
  refine oEEEAA x ?_; clear x; intro o es ep e f r; exact ⟨o, es, ep, (D _ _ e).elim (fun z => by rw [z.2] at f; cases f) id, f, r⟩
theorem Down.fld (D : Down h h' l its) {a : Addr} {o : Obj} {vs : Array Value} (e : h'.get? a = some o) (f : o.data = .fields vs) : h.get? a = some o := (D _ _ e).elim (fun z => by rw [z.2] at f; cases f) id
theorem Down.fn (D : Down h h' l its) {a : Addr} {o : Obj} {d : FuncData} (e : h'.get? a = some o) (f : o.data = .func d) : h.get? a = some o := (D _ _ e).elim (fun z => by rw [z.2] at f; cases f) id
theorem Down.di (D : Down h h' l its) {a b : Addr} {o : Obj} (e : h'.get? a = some o) (f : o.dict = some b) : h.get? a = some o := (D _ _ e).elim (fun z => by rw [z.2] at f; cases f) id
theorem Down.cl (D : Down h h' l its) {a : Addr} {o : Obj} {d : ClassData} (e : h'.get? a = some o) (f : o.data = .cls d) : h.get? a = some o := (D _ _ e).elim (fun z => by rw [z.2] at f; cases f) id
theorem Down.tail (D : Down h h' l its) {bm tl : List Value} (T : OwnTailQ h' bm tl) : OwnTailQ h bm tl := by
  induction T with
  | base => exact .base
  | own hA hN hq _ ih => exact .own (D.cl hA rfl) (D.ns hN) hq ih
theorem Down.own (D : Down h h' l its) {x : Str} {C : Addr} {bm : List Value} {n : String} {mg : Str → Option Value} (O : OwnClsQ x C bm n mg h') : OwnClsQ x C bm n mg h := by
  refine oEEEEEEEEE O.obj fun bm' N nm q bs hdct sn sub ab zz => ?_; refine oEEEEEEEEA zz ?_; clear zz; intro col dd k0 k1 k2 k3 k5 mN hC zz; refine oAA zz ?_; clear zz; intro hN hq T
  exact ⟨O.bound, bm', N, nm, q, bs, hdct, sn, sub, ab, col, dd, k0, k1, k2, k3, k5, mN, D.cl hC rfl, D.ns hN, hq, D.tail T⟩
theorem Down.rec (D : Down h h' l its) {cd : Value} {q : Str} (x : h'.CodeRec cd q) : h.CodeRec cd q := by
  refine oEEEEAAA x ?_; clear x; intro c o vs t e g f r; exact ⟨c, o, vs, t, e, D.fld g f, f, r⟩
theorem Down.code (D : Down h h' l its) {a b : Addr} {ps : Array Value} (x : h'.IsCode a b ps) : h.IsCode a b ps := by
  refine oEEEEEEEEE x ?_; clear x; intro o vs file tf flags tg inF text tt zz; refine oEAAAAAAAA zz ?_; clear zz; intro op e f r2 r3 r4 r5 r6 g zz; refine oA zz ?_; clear zz; intro k r
  exact ⟨o, vs, file, tf, flags, tg, inF, text, tt, op, D.fld e f, f, r2, r3, r4, r5, r6, D.fld g k, k, r⟩
theorem Down.table (D : Down h h' l its) {a b : Addr} {ps : Array Value} (x : h'.TableAt a b ps) : h.TableAt a b ps := by
  obtain ⟨⟨o, vs, e, u, f, r⟩, t⟩ := x; exact ⟨⟨o, vs, D.fld e f, u, f, r⟩, D.fld t rfl⟩
theorem Down.seer (D : Down h h' l its) (x : h'.NoSeer) : h.NoSeer where
  statics := by refine oEA x.statics fun mc a b => ?_; exact ⟨mc, D.ns a, b⟩
  mods := by refine oEA x.mods fun mc a b => ?_; exact ⟨mc, D.ns a, b⟩
  imp := by refine oEA x.imp fun mc a b => ?_; exact ⟨mc, D.ns a, b⟩
  main := by refine oEEEAAAA x.main fun mg bm ob a b c d e => ?_; exact ⟨mg, bm, ob, D.ns a, b, D.di c e, d, e⟩
theorem Down.top (D : Down h h' l its) {p : Program} {loose : List Str} {mean : ExcName → Option Value} {mg mb : Str → Option Value} (T : Top p loose mean mg mb h') : Top p loose mean mg mb h where
  g := D.ns T.g
  b := D.ns T.b
  nolimit := by refine oEA T.nolimit fun mc h1 h2 => ?_; exact ⟨mc, D.ns h1, h2⟩
  nodigits := by refine oEA T.nodigits fun mc h1 h2 => ?_; exact ⟨mc, D.ns h1, h2⟩
  fn := fun d hd => by refine oEEEEEAAA (T.fn d hd) fun a o pm code doc h1 h2 h3 h4 => ?_; exact ⟨a, o, pm, code, doc, h1, D.fn h2 h3, h3, D.rec h4⟩
  own := fun o ho => by refine oEA (T.own o ho) fun C O hm => ?_; exact ⟨C, D.own O, hm⟩
  const := T.const
  free := T.free
  builtins := T.builtins
  tab := fun d hd => by refine oEEEEEAAAA (T.tab d hd) fun a o fd c P h1 h2 h3 h4 zz => ?_; refine oA zz ?_; clear zz; intro h5 h6; exact ⟨a, o, fd, c, P, h1, D.fn h2 h3, h3, h4, D.code h5, D.table h6⟩
  bmain := by refine oEEAAAAA T.bmain fun bm ob h1 h2 h3 h4 h5 h6 => ?_; exact ⟨bm, ob, h1, h2, D.di h3 h5, h4, h5, h6⟩
  seer := fun hi => D.seer (T.seer hi)
end
theorem th_zH (P : Params) : TH P (hd.zH P) := fun a o e => by
  unfold look at e
  split at e
  · rename_i q
    cases g : (hd.zT P).get a with
    | none => rw [g] at e; cases e
    | some o' => rw [g] at e; exact (abs_get (Nat.le_of_ble_eq_true q) g).trans e
  · cases e
theorem start {c : Cx} {h₁ h₂ : Heap} {l : Addr} {o : Obj} {mf : Str → Option Value} {x : Str} {v : Value} (F : Fr h₁ h₁.objs.size h₂ mf) (hL : c.L = h₁.objs.size) (k : ∀ b o, c.g.get? b = some o → h₁.get? b = some o)
    (hob : h₁.get? l = some o) (hat : l = c.g.objs.size) (hsz : h₁.objs.size = c.g.objs.size + 1) (hm : mf x = some v) : St c [(x, v)] [] [(l, o)] h₂ := by
  have h1 : c.g.objs.size ≤ c.L := by rw [hL, hsz]; exact Nat.le_succ _
  have h2 : l ≠ c.L := by rw [hL, hsz, hat]; exact Nat.ne_of_lt (Nat.lt_succ_self _)
  refine ⟨⟨mf, ⟨by rw [hL]; exact F.ns, fun b o e => F.keep b o (k b o e), h1⟩, fun y u a => ?_⟩, fun p hp => ?_, ⟨List.nodup_nil, fun p hp => absurd hp List.not_mem_nil⟩⟩
  · cases a with
    | here => exact hm
    | there _ a => cases a
  · rcases List.mem_singleton.mp hp with rfl
    refine ⟨F.keep _ _ hob, h2, ?_⟩
    show c.g.get? l = none
    cases q : c.g.get? l with
    | none => rfl
    | some o => exact absurd (Heap.lt_size q) (by rw [hat]; exact Nat.lt_irrefl _)
theorem ints_int : ∀ {vs : List Value} {ns : List Int}, IntsAre vs ns → ∀ x ∈ vs, ∃ n u, x = .int n u
  | _, _, .cons n t h, x, hx => by
    rcases List.mem_cons.mp hx with rfl | hx
    · exact ⟨n, t, rfl⟩
    · exact ints_int h x hx
theorem cw : PySem.Challenge.rw_pq0612_01.Holds := hd.top (by
  intro w s₀ s₁ mg mb G Y fa o pm cd doc dV kV ho hdt hcd hD hmg hg args vals as L hpre hlay hrd hwl hlo
  refine Ground.open G ?_
  intro T B D TE TW
  wrow_args hpre hlay hrd hwl hlo
  rename_i ns hs hlay0 hLa hr1 hl2 as1 as2 l vs as3 hIL ra w1 r0 hI hr hc1 hc2
  have Dn := script_down L hIL
  have hob := X.script_obj L hIL
  obtain ⟨hat, hsz⟩ := X.script_at L
  refine enter_call ?_
  have he := Dflts.none hD rfl
  subst he
  refine call_fullW_ret (binds := [(s_script, .ref l)]) (by decide) ho hdt (Top.nolimit T) hcd (BindsTo.of_eq (by kernel_rfl!)) (locs (by kernel_rfl)) (fun h₁ F => ?_) rfl rfl rfl (fun x hx => of_decide_eq_true (List.all_eq_true.mp (by kernel_rfl : (hd.lawD.scope.names.all fun x => decide (x.2 ≠ .cell)) = true) x hx))
  let c : Cx := ⟨hd.rq.row.prog, w, hd.qv, looseW hd.qv hd.lo, ExcName.means s₀.heap, mg, mb, callerA.deeper (envOf hd.lawD.name hd.lawD.scope s₁.heap.objs.size fa cd), callerA, s₀.heap, s₀.heap, [], hd.lawD.name, s₁.heap.objs.size, fa, cd, s₁.gens, s₁.drawn, s₁.os, bad⟩
  have hT : TH w.params s₀.heap := by
    have e : s₀.heap = hd.zH w.params := congrArg Prod.fst Y
    rw [e]; exact th_zH _
  have hP := Dn.top T
  have O : c.Ok hd.e_law 40 := ⟨below_caller _, hT, hP, rfl, rfl, rfl, (by decide : 1 + claimMargin + 1 + 40 < recursionLimit), (by decide : 4 + 3 + 8 * 40 + 64 < cLine), PassesOwn.never⟩
  have V : c.V := ⟨hT, hP, ktsDicts_nil⟩
  have hn : vs.length < 1000 := by rw [IntsAre.length hI]; walk_at "o"
  have hx : ∀ x ∈ vs, ∃ n u, x = .int n u := ints_int hI
  have h := law_run (ρ := []) (ι := [(l, { cls := .type "list", data := .seq vs.toArray })]) (v := .ref l) O V rfl ⟨l, _, rfl, .head _, rfl, _, rfl⟩ hx hn
  have h2 := h.run h₁ (s₁.toks + 1) (start F rfl L.keeps hob hat hsz (by simp only [List.reverse_cons, List.reverse_nil, List.nil_append, List.lookup, beq_self_eq_true]))
  refine wpAny_mono h2 (fun fl s' x => ?_) fun _ _ x => x
  refine oEEEEEAAA x ?_; clear x; intro h' tk' m' μ' ι' zo5 S' s r; obtain rfl := zo5
  refine oEA S'.F fun mf F' _ => ?_
  show GoodWG _ _ _ _ _ (.ok (.ret (retOf fl))) _
  rw [r]
  refine GoodW.toG (goodW_bool (m := mf) ⟨F'.ns, fun b o e => ?_, Nat.le_refl _⟩ hg (raisesW_false (by wrow_none_raised)) (by wrow_post))
  rcases Dn b o e with ⟨rfl, rfl⟩ | e
  · exact (S'.N _ (List.mem_append.mpr (.inr (s _ (.head _))))).1
  · exact F'.keep b o e)
end Mine
theorem PySem.Challenge.cw_pq0612_01_holds : PySem.Challenge.rw_pq0612_01.Holds :=
  Mine.cw
