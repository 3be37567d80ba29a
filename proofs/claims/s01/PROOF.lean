import PyProof.Rows.All
import Wide.All
import OpenK.AllK
import Wide.FinOn
import PyProof.EqAt
import PyProof.EqKinds
import PyProof.TupleCall
import KE.KStateDown
import KE.OsGo
import Open.SpecLaws
import HandS.ForSpec
import HandS.ForMost
import HandS.Defaults
import HandS.Head0
import HandS.Head1
import HandS.Head2
import HandS.HeadHook1
import HandS.HeadHook2
import HandS.ExcField
import HandS.ExcInit
import HandS.SuiteRaise
import HandS.ExcInitHot
import HandS.Deep
import HandS.CallLocal
import HandS.Conv
import HandS.SortInts
import HandS.SetFor
import HandS.Wide
import HandS.Walk
import HandS.Zip
import KE.GoesEnum
import KE.GoesRaise
import PySem.Challenge.RW_veildeck_s01_answers
set_option Elab.async false
set_option linter.all false
set_option maxRecDepth 100000
set_option maxHeartbeats 4000000
namespace VD
open PySem PySem.Spec PyProof.Rows L2
/-! ### the text by places; what the top leaves of it -/
abbrev PR : Program := PySem.Challenge.pw_veildeck_s01_answers
def top (i : Nat) : Stmt := PR.main.body.getD i (.Pass ⟨0, 0, 0, 0⟩)
abbrev s_need : Stmt := top 24
abbrev s_read_call : Stmt := top 26
abbrev s_need_list : Stmt := top 27
abbrev s_need_ranges : Stmt := top 28
abbrev s_bytes_of : Stmt := top 39
abbrev s_lines_of : Stmt := top 40
abbrev s_token_end : Stmt := top 41
abbrev s_tokens_of : Stmt := top 42
abbrev s_words_of : Stmt := top 43
abbrev s_is_digit : Stmt := top 44
abbrev s_is_letter : Stmt := top 45
abbrev s_is_reserved : Stmt := top 46
abbrev s_is_name : Stmt := top 47
abbrev s_is_number : Stmt := top 48
abbrev s_value_of : Stmt := top 49
abbrev s_line_of : Stmt := top 50
abbrev s_kind_of : Stmt := top 69
abbrev s_used_names : Stmt := top 70
abbrev s_second_of : Stmt := top 71
abbrev s_need_no_third : Stmt := top 72
abbrev s_read_name : Stmt := top 73
abbrev s_read_copies : Stmt := top 74
abbrev s_read_line : Stmt := top 75
abbrev s_read_table : Stmt := top 76
abbrev s_name_lines : Stmt := top 77
abbrev s_text_of : Stmt := top 78
abbrev s_is_extra : Stmt := top 79
abbrev s_parts_of : Stmt := top 80
abbrev s_card_words : Stmt := top 81
abbrev s_card_text : Stmt := top 82
abbrev s_place_among : Stmt := top 83
abbrev s_copy_of : Stmt := top 84
abbrev s_card_of : Stmt := top 85
abbrev s_player_of : Stmt := top 93
abbrev s_receiver_of : Stmt := top 94
abbrev s_position_of : Stmt := top 95
abbrev s_read_permits : Stmt := top 96
abbrev s_read_action : Stmt := top 97
abbrev s_action_of : Stmt := top 98
abbrev s_log_of : Stmt := top 99
abbrev s_receiver_word : Stmt := top 100
abbrev s_action_line : Stmt := top 101
abbrev s_trace_of : Stmt := top 104
abbrev s_deal_of : Stmt := top 105
abbrev s_missing_grants : Stmt := top 106
abbrev s_can_see : Stmt := top 107
abbrev s_members_of : Stmt := top 108
abbrev s_is_seen : Stmt := top 109
abbrev s_seen_positions : Stmt := top 110
abbrev s_place_in_trace : Stmt := top 111
abbrev s_known_entries : Stmt := top 112
abbrev s_card_below : Stmt := top 113
abbrev s_possible_cards : Stmt := top 114
abbrev s_open_count : Stmt := top 115
abbrev s_probability_of : Stmt := top 116
abbrev s_first_invalid : Stmt := top 126
abbrev s_is_consistent : Stmt := top 127
abbrev s_counted : Stmt := top 129
abbrev s_need_card : Stmt := top 130
abbrev s_need_player : Stmt := top 131
abbrev s_need_coalition : Stmt := top 132
abbrev s_need_all : Stmt := top 133
abbrev s_print_table : Stmt := top 134
abbrev s_card_info : Stmt := top 135
abbrev s_find_card : Stmt := top 136
abbrev s_perform : Stmt := top 137
abbrev s_print_log : Stmt := top 138
abbrev s_validate_log : Stmt := top 139
abbrev s_deal : Stmt := top 140
abbrev s_trace : Stmt := top 141
abbrev s_tell_can_see : Stmt := top 142
abbrev s_positions_seen : Stmt := top 143
abbrev s_tell_known_entries : Stmt := top 144
abbrev s_open_entry_count : Stmt := top 145
abbrev s_tell_possible_cards : Stmt := top 146
abbrev s_card_probability : Stmt := top 147
abbrev s_tell_owners : Stmt := top 148
abbrev s_tell_missing_grants : Stmt := top 149
abbrev s_summary : Stmt := top 150
abbrev s_verify_log : Stmt := top 151
abbrev s_is_permutation : Stmt := top 153
abbrev s_composed : Stmt := top 154
abbrev s_inverse_of : Stmt := top 155
abbrev s_cycle_from : Stmt := top 156
abbrev s_cycles_of : Stmt := top 157
abbrev s_factorial_of : Stmt := top 158
abbrev s_permutation_at : Stmt := top 159
abbrev s_number_of : Stmt := top 160
abbrev s_need_permutation : Stmt := top 173
abbrev s_compose : Stmt := top 174
abbrev s_inverse : Stmt := top 175
abbrev s_cycles : Stmt := top 176
abbrev s_unrank : Stmt := top 177
abbrev s_rank : Stmt := top 178
abbrev s_fields_of_orders : Stmt := top 179
abbrev s_check_table : Stmt := top 180
abbrev s_answer_of : Stmt := top 182
abbrev s_answers : Stmt := top 183
abbrev s_Refused_init : Stmt := inClass (top 23) 0
abbrev s_Call_init : Stmt := inClass (top 25) 0
abbrev s_TableFault_init : Stmt := inClass (top 67) 0
abbrev s_Table_init : Stmt := inClass (top 68) 0
abbrev s_Table_declare : Stmt := inClass (top 68) 1
abbrev s_Table_many : Stmt := inClass (top 68) 2
abbrev s_Table_grid_size : Stmt := inClass (top 68) 3
abbrev s_Table_first_extra : Stmt := inClass (top 68) 4
abbrev s_Table_card_count : Stmt := inClass (top 68) 5
abbrev s_Table_player_count : Stmt := inClass (top 68) 6
abbrev s_Action_init : Stmt := inClass (top 92) 0
abbrev s_Play_init : Stmt := inClass (top 125) 0
abbrev s_Play_all_laid : Stmt := inClass (top 125) 1
abbrev s_Play_has_granted : Stmt := inClass (top 125) 2
abbrev s_Play_reason_to_lay : Stmt := inClass (top 125) 3
abbrev s_Play_reason_against : Stmt := inClass (top 125) 4
abbrev s_Play_perform : Stmt := inClass (top 125) 5
abbrev s_Desk_init : Stmt := inClass (top 181) 0
abbrev s_Desk_load_table : Stmt := inClass (top 181) 1
abbrev s_Desk_at_table : Stmt := inClass (top 181) 2
abbrev s_Desk_fields : Stmt := inClass (top 181) 3
abbrev a_need : Addr := 99
abbrev a_read_call : Addr := 127
abbrev a_need_list : Addr := 134
abbrev a_need_ranges : Addr := 141
abbrev a_bytes_of : Addr := 147
abbrev a_lines_of : Addr := 154
abbrev a_token_end : Addr := 161
abbrev a_tokens_of : Addr := 168
abbrev a_words_of : Addr := 173
abbrev a_is_digit : Addr := 180
abbrev a_is_letter : Addr := 187
abbrev a_is_reserved : Addr := 192
abbrev a_is_name : Addr := 197
abbrev a_is_number : Addr := 202
abbrev a_value_of : Addr := 209
abbrev a_line_of : Addr := 216
abbrev a_kind_of : Addr := 308
abbrev a_used_names : Addr := 315
abbrev a_second_of : Addr := 322
abbrev a_need_no_third : Addr := 329
abbrev a_read_name : Addr := 336
abbrev a_read_copies : Addr := 343
abbrev a_read_line : Addr := 350
abbrev a_read_table : Addr := 357
abbrev a_name_lines : Addr := 364
abbrev a_text_of : Addr := 371
abbrev a_is_extra : Addr := 378
abbrev a_parts_of : Addr := 385
abbrev a_card_words : Addr := 392
abbrev a_card_text : Addr := 399
abbrev a_place_among : Addr := 406
abbrev a_copy_of : Addr := 413
abbrev a_card_of : Addr := 420
abbrev a_player_of : Addr := 449
abbrev a_receiver_of : Addr := 456
abbrev a_position_of : Addr := 463
abbrev a_read_permits : Addr := 470
abbrev a_read_action : Addr := 475
abbrev a_action_of : Addr := 482
abbrev a_log_of : Addr := 487
abbrev a_receiver_word : Addr := 494
abbrev a_action_line : Addr := 499
abbrev a_trace_of : Addr := 507
abbrev a_deal_of : Addr := 512
abbrev a_missing_grants : Addr := 517
abbrev a_can_see : Addr := 524
abbrev a_members_of : Addr := 529
abbrev a_is_seen : Addr := 534
abbrev a_seen_positions : Addr := 539
abbrev a_place_in_trace : Addr := 546
abbrev a_known_entries : Addr := 551
abbrev a_card_below : Addr := 558
abbrev a_possible_cards : Addr := 563
abbrev a_open_count : Addr := 570
abbrev a_probability_of : Addr := 577
abbrev a_first_invalid : Addr := 638
abbrev a_is_consistent : Addr := 645
abbrev a_counted : Addr := 652
abbrev a_need_card : Addr := 659
abbrev a_need_player : Addr := 666
abbrev a_need_coalition : Addr := 673
abbrev a_need_all : Addr := 680
abbrev a_print_table : Addr := 687
abbrev a_card_info : Addr := 694
abbrev a_find_card : Addr := 701
abbrev a_perform : Addr := 708
abbrev a_print_log : Addr := 715
abbrev a_validate_log : Addr := 722
abbrev a_deal : Addr := 729
abbrev a_trace : Addr := 736
abbrev a_tell_can_see : Addr := 743
abbrev a_positions_seen : Addr := 750
abbrev a_tell_known_entries : Addr := 757
abbrev a_open_entry_count : Addr := 764
abbrev a_tell_possible_cards : Addr := 771
abbrev a_card_probability : Addr := 778
abbrev a_tell_owners : Addr := 785
abbrev a_tell_missing_grants : Addr := 792
abbrev a_summary : Addr := 797
abbrev a_verify_log : Addr := 804
abbrev a_is_permutation : Addr := 811
abbrev a_composed : Addr := 816
abbrev a_inverse_of : Addr := 823
abbrev a_cycle_from : Addr := 830
abbrev a_cycles_of : Addr := 837
abbrev a_factorial_of : Addr := 844
abbrev a_permutation_at : Addr := 851
abbrev a_number_of : Addr := 856
abbrev a_need_permutation : Addr := 865
abbrev a_compose : Addr := 872
abbrev a_inverse : Addr := 879
abbrev a_cycles : Addr := 886
abbrev a_unrank : Addr := 893
abbrev a_rank : Addr := 900
abbrev a_fields_of_orders : Addr := 907
abbrev a_check_table : Addr := 914
abbrev a_answer_of : Addr := 963
abbrev a_answers : Addr := 970
abbrev a_Refused_init : Addr := 86
abbrev a_Call_init : Addr := 113
abbrev a_TableFault_init : Addr := 232
abbrev a_Table_init : Addr := 252
abbrev a_Table_declare : Addr := 259
abbrev a_Table_many : Addr := 266
abbrev a_Table_grid_size : Addr := 273
abbrev a_Table_first_extra : Addr := 280
abbrev a_Table_card_count : Addr := 287
abbrev a_Table_player_count : Addr := 294
abbrev a_Action_init : Addr := 435
abbrev a_Play_init : Addr := 591
abbrev a_Play_all_laid : Addr := 596
abbrev a_Play_has_granted : Addr := 603
abbrev a_Play_reason_to_lay : Addr := 610
abbrev a_Play_reason_against : Addr := 617
abbrev a_Play_perform : Addr := 624
abbrev a_Desk_init : Addr := 928
abbrev a_Desk_load_table : Addr := 935
abbrev a_Desk_at_table : Addr := 942
abbrev a_Desk_fields : Addr := 949
abbrev c_Refused : Addr := 89
abbrev c_Call : Addr := 116
abbrev c_TableFault : Addr := 235
abbrev c_Table : Addr := 297
abbrev c_Action : Addr := 438
abbrev c_Play : Addr := 627
abbrev c_Desk : Addr := 952
abbrev t_A_TABLE : Addr := 15
abbrev t_A_CARD : Addr := 16
abbrev t_AN_ACTION : Addr := 17
abbrev t_A_LOG : Addr := 18
abbrev t_A_ROW : Addr := 19
abbrev t_A_SHORT_ROW : Addr := 20
abbrev t_NUMBERS : Addr := 46
abbrev t_LISTS : Addr := 72
abbrev t_RESERVED : Addr := 142
abbrev t_KIND_WORDS : Addr := 217
abbrev t_MOST_NAMES : Addr := 218
abbrev t_DEED_WORDS : Addr := 421
abbrev t_POWERS : Addr := 500
abbrev t_DEEDS : Addr := 857
abbrev t_LATER_DEEDS : Addr := 858
/-- a def of the text: where it and its code stand, its name, its qualified name -/
structure FD where
  a : Addr
  c : Addr
  x : Str
  q : Str
  st : Stmt
def d_need : FD := ⟨99, 98, "need", "need", s_need⟩
def d_read_call : FD := ⟨127, 126, "read_call", "read_call", s_read_call⟩
def d_need_list : FD := ⟨134, 133, "need_list", "need_list", s_need_list⟩
def d_need_ranges : FD := ⟨141, 140, "need_ranges", "need_ranges", s_need_ranges⟩
def d_bytes_of : FD := ⟨147, 146, "bytes_of", "bytes_of", s_bytes_of⟩
def d_lines_of : FD := ⟨154, 153, "lines_of", "lines_of", s_lines_of⟩
def d_token_end : FD := ⟨161, 160, "token_end", "token_end", s_token_end⟩
def d_tokens_of : FD := ⟨168, 167, "tokens_of", "tokens_of", s_tokens_of⟩
def d_words_of : FD := ⟨173, 172, "words_of", "words_of", s_words_of⟩
def d_is_digit : FD := ⟨180, 179, "is_digit", "is_digit", s_is_digit⟩
def d_is_letter : FD := ⟨187, 186, "is_letter", "is_letter", s_is_letter⟩
def d_is_reserved : FD := ⟨192, 191, "is_reserved", "is_reserved", s_is_reserved⟩
def d_is_name : FD := ⟨197, 196, "is_name", "is_name", s_is_name⟩
def d_is_number : FD := ⟨202, 201, "is_number", "is_number", s_is_number⟩
def d_value_of : FD := ⟨209, 208, "value_of", "value_of", s_value_of⟩
def d_line_of : FD := ⟨216, 215, "line_of", "line_of", s_line_of⟩
def d_kind_of : FD := ⟨308, 307, "kind_of", "kind_of", s_kind_of⟩
def d_used_names : FD := ⟨315, 314, "used_names", "used_names", s_used_names⟩
def d_second_of : FD := ⟨322, 321, "second_of", "second_of", s_second_of⟩
def d_need_no_third : FD := ⟨329, 328, "need_no_third", "need_no_third", s_need_no_third⟩
def d_read_name : FD := ⟨336, 335, "read_name", "read_name", s_read_name⟩
def d_read_copies : FD := ⟨343, 342, "read_copies", "read_copies", s_read_copies⟩
def d_read_line : FD := ⟨350, 349, "read_line", "read_line", s_read_line⟩
def d_read_table : FD := ⟨357, 356, "read_table", "read_table", s_read_table⟩
def d_name_lines : FD := ⟨364, 363, "name_lines", "name_lines", s_name_lines⟩
def d_text_of : FD := ⟨371, 370, "text_of", "text_of", s_text_of⟩
def d_is_extra : FD := ⟨378, 377, "is_extra", "is_extra", s_is_extra⟩
def d_parts_of : FD := ⟨385, 384, "parts_of", "parts_of", s_parts_of⟩
def d_card_words : FD := ⟨392, 391, "card_words", "card_words", s_card_words⟩
def d_card_text : FD := ⟨399, 398, "card_text", "card_text", s_card_text⟩
def d_place_among : FD := ⟨406, 405, "place_among", "place_among", s_place_among⟩
def d_copy_of : FD := ⟨413, 412, "copy_of", "copy_of", s_copy_of⟩
def d_card_of : FD := ⟨420, 419, "card_of", "card_of", s_card_of⟩
def d_player_of : FD := ⟨449, 448, "player_of", "player_of", s_player_of⟩
def d_receiver_of : FD := ⟨456, 455, "receiver_of", "receiver_of", s_receiver_of⟩
def d_position_of : FD := ⟨463, 462, "position_of", "position_of", s_position_of⟩
def d_read_permits : FD := ⟨470, 469, "read_permits", "read_permits", s_read_permits⟩
def d_read_action : FD := ⟨475, 474, "read_action", "read_action", s_read_action⟩
def d_action_of : FD := ⟨482, 481, "action_of", "action_of", s_action_of⟩
def d_log_of : FD := ⟨487, 486, "log_of", "log_of", s_log_of⟩
def d_receiver_word : FD := ⟨494, 493, "receiver_word", "receiver_word", s_receiver_word⟩
def d_action_line : FD := ⟨499, 498, "action_line", "action_line", s_action_line⟩
def d_trace_of : FD := ⟨507, 506, "trace_of", "trace_of", s_trace_of⟩
def d_deal_of : FD := ⟨512, 511, "deal_of", "deal_of", s_deal_of⟩
def d_missing_grants : FD := ⟨517, 516, "missing_grants", "missing_grants", s_missing_grants⟩
def d_can_see : FD := ⟨524, 523, "can_see", "can_see", s_can_see⟩
def d_members_of : FD := ⟨529, 528, "members_of", "members_of", s_members_of⟩
def d_is_seen : FD := ⟨534, 533, "is_seen", "is_seen", s_is_seen⟩
def d_seen_positions : FD := ⟨539, 538, "seen_positions", "seen_positions", s_seen_positions⟩
def d_place_in_trace : FD := ⟨546, 545, "place_in_trace", "place_in_trace", s_place_in_trace⟩
def d_known_entries : FD := ⟨551, 550, "known_entries", "known_entries", s_known_entries⟩
def d_card_below : FD := ⟨558, 557, "card_below", "card_below", s_card_below⟩
def d_possible_cards : FD := ⟨563, 562, "possible_cards", "possible_cards", s_possible_cards⟩
def d_open_count : FD := ⟨570, 569, "open_count", "open_count", s_open_count⟩
def d_probability_of : FD := ⟨577, 576, "probability_of", "probability_of", s_probability_of⟩
def d_first_invalid : FD := ⟨638, 637, "first_invalid", "first_invalid", s_first_invalid⟩
def d_is_consistent : FD := ⟨645, 644, "is_consistent", "is_consistent", s_is_consistent⟩
def d_counted : FD := ⟨652, 651, "counted", "counted", s_counted⟩
def d_need_card : FD := ⟨659, 658, "need_card", "need_card", s_need_card⟩
def d_need_player : FD := ⟨666, 665, "need_player", "need_player", s_need_player⟩
def d_need_coalition : FD := ⟨673, 672, "need_coalition", "need_coalition", s_need_coalition⟩
def d_need_all : FD := ⟨680, 679, "need_all", "need_all", s_need_all⟩
def d_print_table : FD := ⟨687, 686, "print_table", "print_table", s_print_table⟩
def d_card_info : FD := ⟨694, 693, "card_info", "card_info", s_card_info⟩
def d_find_card : FD := ⟨701, 700, "find_card", "find_card", s_find_card⟩
def d_perform : FD := ⟨708, 707, "perform", "perform", s_perform⟩
def d_print_log : FD := ⟨715, 714, "print_log", "print_log", s_print_log⟩
def d_validate_log : FD := ⟨722, 721, "validate_log", "validate_log", s_validate_log⟩
def d_deal : FD := ⟨729, 728, "deal", "deal", s_deal⟩
def d_trace : FD := ⟨736, 735, "trace", "trace", s_trace⟩
def d_tell_can_see : FD := ⟨743, 742, "tell_can_see", "tell_can_see", s_tell_can_see⟩
def d_positions_seen : FD := ⟨750, 749, "positions_seen", "positions_seen", s_positions_seen⟩
def d_tell_known_entries : FD := ⟨757, 756, "tell_known_entries", "tell_known_entries", s_tell_known_entries⟩
def d_open_entry_count : FD := ⟨764, 763, "open_entry_count", "open_entry_count", s_open_entry_count⟩
def d_tell_possible_cards : FD := ⟨771, 770, "tell_possible_cards", "tell_possible_cards", s_tell_possible_cards⟩
def d_card_probability : FD := ⟨778, 777, "card_probability", "card_probability", s_card_probability⟩
def d_tell_owners : FD := ⟨785, 784, "tell_owners", "tell_owners", s_tell_owners⟩
def d_tell_missing_grants : FD := ⟨792, 791, "tell_missing_grants", "tell_missing_grants", s_tell_missing_grants⟩
def d_summary : FD := ⟨797, 796, "summary", "summary", s_summary⟩
def d_verify_log : FD := ⟨804, 803, "verify_log", "verify_log", s_verify_log⟩
def d_is_permutation : FD := ⟨811, 810, "is_permutation", "is_permutation", s_is_permutation⟩
def d_composed : FD := ⟨816, 815, "composed", "composed", s_composed⟩
def d_inverse_of : FD := ⟨823, 822, "inverse_of", "inverse_of", s_inverse_of⟩
def d_cycle_from : FD := ⟨830, 829, "cycle_from", "cycle_from", s_cycle_from⟩
def d_cycles_of : FD := ⟨837, 836, "cycles_of", "cycles_of", s_cycles_of⟩
def d_factorial_of : FD := ⟨844, 843, "factorial_of", "factorial_of", s_factorial_of⟩
def d_permutation_at : FD := ⟨851, 850, "permutation_at", "permutation_at", s_permutation_at⟩
def d_number_of : FD := ⟨856, 855, "number_of", "number_of", s_number_of⟩
def d_need_permutation : FD := ⟨865, 864, "need_permutation", "need_permutation", s_need_permutation⟩
def d_compose : FD := ⟨872, 871, "compose", "compose", s_compose⟩
def d_inverse : FD := ⟨879, 878, "inverse", "inverse", s_inverse⟩
def d_cycles : FD := ⟨886, 885, "cycles", "cycles", s_cycles⟩
def d_unrank : FD := ⟨893, 892, "unrank", "unrank", s_unrank⟩
def d_rank : FD := ⟨900, 899, "rank", "rank", s_rank⟩
def d_fields_of_orders : FD := ⟨907, 906, "fields_of_orders", "fields_of_orders", s_fields_of_orders⟩
def d_check_table : FD := ⟨914, 913, "check_table", "check_table", s_check_table⟩
def d_answer_of : FD := ⟨963, 962, "answer_of", "answer_of", s_answer_of⟩
def d_answers : FD := ⟨970, 969, "answers", "answers", s_answers⟩
def d_Refused_init : FD := ⟨86, 85, "__init__", "Refused.__init__", s_Refused_init⟩
def d_Call_init : FD := ⟨113, 112, "__init__", "Call.__init__", s_Call_init⟩
def d_TableFault_init : FD := ⟨232, 231, "__init__", "TableFault.__init__", s_TableFault_init⟩
def d_Table_init : FD := ⟨252, 251, "__init__", "Table.__init__", s_Table_init⟩
def d_Table_declare : FD := ⟨259, 258, "declare", "Table.declare", s_Table_declare⟩
def d_Table_many : FD := ⟨266, 265, "many", "Table.many", s_Table_many⟩
def d_Table_grid_size : FD := ⟨273, 272, "grid_size", "Table.grid_size", s_Table_grid_size⟩
def d_Table_first_extra : FD := ⟨280, 279, "first_extra", "Table.first_extra", s_Table_first_extra⟩
def d_Table_card_count : FD := ⟨287, 286, "card_count", "Table.card_count", s_Table_card_count⟩
def d_Table_player_count : FD := ⟨294, 293, "player_count", "Table.player_count", s_Table_player_count⟩
def d_Action_init : FD := ⟨435, 434, "__init__", "Action.__init__", s_Action_init⟩
def d_Play_init : FD := ⟨591, 590, "__init__", "Play.__init__", s_Play_init⟩
def d_Play_all_laid : FD := ⟨596, 595, "all_laid", "Play.all_laid", s_Play_all_laid⟩
def d_Play_has_granted : FD := ⟨603, 602, "has_granted", "Play.has_granted", s_Play_has_granted⟩
def d_Play_reason_to_lay : FD := ⟨610, 609, "reason_to_lay", "Play.reason_to_lay", s_Play_reason_to_lay⟩
def d_Play_reason_against : FD := ⟨617, 616, "reason_against", "Play.reason_against", s_Play_reason_against⟩
def d_Play_perform : FD := ⟨624, 623, "perform", "Play.perform", s_Play_perform⟩
def d_Desk_init : FD := ⟨928, 927, "__init__", "Desk.__init__", s_Desk_init⟩
def d_Desk_load_table : FD := ⟨935, 934, "load_table", "Desk.load_table", s_Desk_load_table⟩
def d_Desk_at_table : FD := ⟨942, 941, "at_table", "Desk.at_table", s_Desk_at_table⟩
def d_Desk_fields : FD := ⟨949, 948, "fields", "Desk.fields", s_Desk_fields⟩
def fnsV0 : List FD := [d_need, d_read_call, d_need_list, d_need_ranges, d_bytes_of, d_lines_of, d_token_end, d_tokens_of, d_words_of, d_is_digit, d_is_letter, d_is_reserved, d_is_name, d_is_number]
def fnsV1 : List FD := [d_value_of, d_line_of, d_kind_of, d_used_names, d_second_of, d_need_no_third, d_read_name, d_read_copies, d_read_line, d_read_table, d_name_lines, d_text_of, d_is_extra, d_parts_of]
def fnsV2 : List FD := [d_card_words, d_card_text, d_place_among, d_copy_of, d_card_of, d_player_of, d_receiver_of, d_position_of, d_read_permits, d_read_action, d_action_of, d_log_of, d_receiver_word, d_action_line]
def fnsV3 : List FD := [d_trace_of, d_deal_of, d_missing_grants, d_can_see, d_members_of, d_is_seen, d_seen_positions, d_place_in_trace, d_known_entries, d_card_below, d_possible_cards, d_open_count, d_probability_of, d_first_invalid]
def fnsV4 : List FD := [d_is_consistent, d_counted, d_need_card, d_need_player, d_need_coalition, d_need_all, d_print_table, d_card_info, d_find_card, d_perform, d_print_log, d_validate_log, d_deal, d_trace]
def fnsV5 : List FD := [d_tell_can_see, d_positions_seen, d_tell_known_entries, d_open_entry_count, d_tell_possible_cards, d_card_probability, d_tell_owners, d_tell_missing_grants, d_summary, d_verify_log, d_is_permutation, d_composed, d_inverse_of, d_cycle_from]
def fnsV6 : List FD := [d_cycles_of, d_factorial_of, d_permutation_at, d_number_of, d_need_permutation, d_compose, d_inverse, d_cycles, d_unrank, d_rank, d_fields_of_orders, d_check_table, d_answer_of, d_answers]
def fnsV7 : List FD := [d_Refused_init, d_Call_init, d_TableFault_init, d_Table_init, d_Table_declare, d_Table_many, d_Table_grid_size, d_Table_first_extra, d_Table_card_count, d_Table_player_count, d_Action_init, d_Play_init, d_Play_all_laid, d_Play_has_granted]
def fnsV8 : List FD := [d_Play_reason_to_lay, d_Play_reason_against, d_Play_perform, d_Desk_init, d_Desk_load_table, d_Desk_at_table, d_Desk_fields]
def fnsV : List FD := fnsV0 ++ (fnsV1 ++ (fnsV2 ++ (fnsV3 ++ (fnsV4 ++ (fnsV5 ++ (fnsV6 ++ (fnsV7 ++ (fnsV8))))))))
def globV0 : List (Str × Option V) := [("__name__", none), ("__doc__", none), ("__package__", none), ("__loader__", none), ("__spec__", none), ("__annotations__", none), ("__builtins__", none), ("__file__", none), ("__cached__", none), ("OUTSIDE", some (.int (-1)))]
def globV1 : List (Str × Option V) := [("NO_TABLE", some (.int (-2))), ("BAD_TEXT", some (.int (-3))), ("NOT_THERE", some (.int (-4))), ("NO_PERMUTATION_arguments", some (.int (-5))), ("NOT_ALL", some (.int (-7))), ("INVALID", some (.int (-10))), ("GREATEST_BYTE", some (.int (255))), ("GREATEST_CARD", some (.int (51))), ("GREATEST_PLAYER", some (.int (5))), ("GREATEST_COALITION", some (.int (63)))]
def globV2 : List (Str × Option V) := [("MOST_RANKED", some (.int (19))), ("MOST_ENTRIES", some (.int (52))), ("GREATEST_NUMBER", some (.int (1000000000000000000))), ("A_TABLE", some (.ref 15)), ("A_CARD", some (.ref 16)), ("AN_ACTION", some (.ref 17)), ("A_LOG", some (.ref 18)), ("A_ROW", some (.ref 19)), ("A_SHORT_ROW", some (.ref 20)), ("NUMBERS", some (.ref 46))]
def globV3 : List (Str × Option V) := [("LISTS", some (.ref 72)), ("Refused", some (.ref 89)), ("need", some (.ref 99)), ("Call", some (.ref 116)), ("read_call", some (.ref 127)), ("need_list", some (.ref 134)), ("need_ranges", some (.ref 141)), ("LINE_END", some (.int (10))), ("SPACE", some (.int (32))), ("FIRST_DIGIT", some (.int (48)))]
def globV4 : List (Str × Option V) := [("LAST_DIGIT", some (.int (57))), ("FIRST_LETTER", some (.int (97))), ("LAST_LETTER", some (.int (122))), ("LONGEST_NAME", some (.int (12))), ("LONGEST_NUMBER", some (.int (3))), ("RESERVED", some (.ref 142)), ("bytes_of", some (.ref 147)), ("lines_of", some (.ref 154)), ("token_end", some (.ref 161)), ("tokens_of", some (.ref 168))]
def globV5 : List (Str × Option V) := [("words_of", some (.ref 173)), ("is_digit", some (.ref 180)), ("is_letter", some (.ref 187)), ("is_reserved", some (.ref 192)), ("is_name", some (.ref 197)), ("is_number", some (.ref 202)), ("value_of", some (.ref 209)), ("line_of", some (.ref 216)), ("SUIT", some (.int (0))), ("RANK_tables", some (.int (1)))]
def globV6 : List (Str × Option V) := [("EXTRA", some (.int (2))), ("PLAYER", some (.int (3))), ("KIND_WORDS", some (.ref 217)), ("MOST_NAMES", some (.ref 218)), ("MOST_COPIES", some (.int (4))), ("MOST_CARDS", some (.int (52))), ("FEWEST_PLAYERS", some (.int (2))), ("NOT_ALLOWED", some (.int (1))), ("OUT_OF_RANGE", some (.int (3))), ("NAME_USED", some (.int (4)))]
def globV7 : List (Str × Option V) := [("TOO_MANY_NAMES", some (.int (7))), ("TOO_MANY_CARDS", some (.int (8))), ("TOO_FEW", some (.int (9))), ("TableFault", some (.ref 235)), ("Table", some (.ref 297)), ("kind_of", some (.ref 308)), ("used_names", some (.ref 315)), ("second_of", some (.ref 322)), ("need_no_third", some (.ref 329)), ("read_name", some (.ref 336))]
def globV8 : List (Str × Option V) := [("read_copies", some (.ref 343)), ("read_line", some (.ref 350)), ("read_table", some (.ref 357)), ("name_lines", some (.ref 364)), ("text_of", some (.ref 371)), ("is_extra", some (.ref 378)), ("parts_of", some (.ref 385)), ("card_words", some (.ref 392)), ("card_text", some (.ref 399)), ("place_among", some (.ref 406))]
def globV9 : List (Str × Option V) := [("copy_of", some (.ref 413)), ("card_of", some (.ref 420)), ("LAYS", some (.int (0))), ("PERMITS", some (.int (1))), ("TAKES", some (.int (2))), ("DEED_WORDS", some (.ref 421)), ("EVERYBODY", some (.int (-1))), ("Action", some (.ref 438)), ("player_of", some (.ref 449)), ("receiver_of", some (.ref 456))]
def globV10 : List (Str × Option V) := [("position_of", some (.ref 463)), ("read_permits", some (.ref 470)), ("read_action", some (.ref 475)), ("action_of", some (.ref 482)), ("log_of", some (.ref 487)), ("receiver_word", some (.ref 494)), ("action_line", some (.ref 499)), ("POWERS", some (.ref 500)), ("trace_of", some (.ref 507)), ("deal_of", some (.ref 512))]
def globV11 : List (Str × Option V) := [("missing_grants", some (.ref 517)), ("can_see", some (.ref 524)), ("members_of", some (.ref 529)), ("is_seen", some (.ref 534)), ("seen_positions", some (.ref 539)), ("place_in_trace", some (.ref 546)), ("known_entries", some (.ref 551)), ("card_below", some (.ref 558)), ("possible_cards", some (.ref 563)), ("open_count", some (.ref 570))]
def globV12 : List (Str × Option V) := [("probability_of", some (.ref 577)), ("VALID", some (.int (0))), ("LAID_ALREADY", some (.int (1))), ("NO_PERMUTATION_plays", some (.int (2))), ("NOT_ALL_LAID", some (.int (3))), ("NO_POSITION", some (.int (4))), ("GRANTED_ALREADY", some (.int (5))), ("CLAIMED_ALREADY", some (.int (6))), ("Play", some (.ref 627)), ("first_invalid", some (.ref 638))]
def globV13 : List (Str × Option V) := [("is_consistent", some (.ref 645)), ("counted", some (.ref 652)), ("need_card", some (.ref 659)), ("need_player", some (.ref 666)), ("need_coalition", some (.ref 673)), ("need_all", some (.ref 680)), ("print_table", some (.ref 687)), ("card_info", some (.ref 694)), ("find_card", some (.ref 701)), ("perform", some (.ref 708))]
def globV14 : List (Str × Option V) := [("print_log", some (.ref 715)), ("validate_log", some (.ref 722)), ("deal", some (.ref 729)), ("trace", some (.ref 736)), ("tell_can_see", some (.ref 743)), ("positions_seen", some (.ref 750)), ("tell_known_entries", some (.ref 757)), ("open_entry_count", some (.ref 764)), ("tell_possible_cards", some (.ref 771)), ("card_probability", some (.ref 778))]
def globV15 : List (Str × Option V) := [("tell_owners", some (.ref 785)), ("tell_missing_grants", some (.ref 792)), ("summary", some (.ref 797)), ("verify_log", some (.ref 804)), ("is_permutation", some (.ref 811)), ("composed", some (.ref 816)), ("inverse_of", some (.ref 823)), ("cycle_from", some (.ref 830)), ("cycles_of", some (.ref 837)), ("factorial_of", some (.ref 844))]
def globV16 : List (Str × Option V) := [("permutation_at", some (.ref 851)), ("number_of", some (.ref 856)), ("LOAD", some (.int (0))), ("CHECK", some (.int (1))), ("FIRST_OF_TABLE", some (.int (2))), ("COMPOSE", some (.int (16))), ("INVERSE", some (.int (17))), ("CYCLES", some (.int (18))), ("UNRANK", some (.int (19))), ("RANK_desk", some (.int (20)))]
def globV17 : List (Str × Option V) := [("FIRST_BEHIND", some (.int (21))), ("DEEDS", some (.ref 857)), ("LATER_DEEDS", some (.ref 858)), ("need_permutation", some (.ref 865)), ("compose", some (.ref 872)), ("inverse", some (.ref 879)), ("cycles", some (.ref 886)), ("unrank", some (.ref 893)), ("rank", some (.ref 900)), ("fields_of_orders", some (.ref 907))]
def globV18 : List (Str × Option V) := [("check_table", some (.ref 914)), ("Desk", some (.ref 952)), ("answer_of", some (.ref 963)), ("answers", some (.ref 970))]
def globV : List (Str × Option V) := globV0 ++ (globV1 ++ (globV2 ++ (globV3 ++ (globV4 ++ (globV5 ++ (globV6 ++ (globV7 ++ (globV8 ++ (globV9 ++ (globV10 ++ (globV11 ++ (globV12 ++ (globV13 ++ (globV14 ++ (globV15 ++ (globV16 ++ (globV17 ++ (globV18))))))))))))))))))
def tupsV0 : List (Addr × List V) := [(15, [.int (2000), .int (255)]), (16, [.int (60), .int (255)]), (17, [.int (400), .int (255)]), (18, [.int (3000), .int (255)]), (19, [.int (52), .int (51)]), (20, [.int (19), .int (51)]), (21, []), (22, []), (23, []), (24, [.int (51)])]
def tupsV1 : List (Addr × List V) := [(25, []), (26, []), (27, []), (28, []), (29, []), (30, [.int (51)]), (31, [.int (5), .int (51)]), (32, [.int (63)]), (33, [.int (63), .int (5)]), (34, [.int (63), .int (5)])]
def tupsV2 : List (Addr × List V) := [(35, [.int (63), .int (5), .int (51)]), (36, [.int (63), .int (5), .int (51), .int (51)]), (37, []), (38, []), (39, []), (40, [.int (19), .int (1000000000000000000)]), (41, []), (42, []), (43, [.int (5), .int (51)]), (44, [])]
def tupsV3 : List (Addr × List V) := [(45, []), (46, [.ref 21, .ref 22, .ref 23, .ref 24, .ref 25, .ref 26, .ref 27, .ref 28, .ref 29, .ref 30, .ref 31, .ref 32, .ref 33, .ref 34, .ref 35, .ref 36, .ref 37, .ref 38, .ref 39, .ref 40, .ref 41, .ref 42, .ref 43, .ref 44, .ref 45]), (47, [.ref 15]), (48, [.ref 15]), (49, []), (50, []), (51, [.ref 16]), (52, [.ref 17]), (53, []), (54, [.ref 18])]
def tupsV4 : List (Addr × List V) := [(55, []), (56, []), (57, []), (58, []), (59, []), (60, []), (61, []), (62, []), (63, [.ref 19, .ref 19]), (64, [.ref 19])]
def tupsV5 : List (Addr × List V) := [(65, [.ref 19]), (66, []), (67, [.ref 20]), (68, []), (69, []), (70, []), (71, []), (72, [.ref 47, .ref 48, .ref 49, .ref 50, .ref 51, .ref 52, .ref 53, .ref 54, .ref 55, .ref 56, .ref 57, .ref 58, .ref 59, .ref 60, .ref 61, .ref 62, .ref 63, .ref 64, .ref 65, .ref 66, .ref 67, .ref 68, .ref 69, .ref 70, .ref 71]), (142, [.str "lays", .str "permits", .str "takes", .str "to", .str "all"]), (217, [.str "suit", .str "rank", .str "extra", .str "player"])]
def tupsV6 : List (Addr × List V) := [(218, [.int (6), .int (15), .int (4), .int (6)]), (421, [.str "lays", .str "permits", .str "takes"]), (500, [.int (1), .int (2), .int (4), .int (8), .int (16), .int (32)]), (857, [.ref 687, .ref 694, .ref 701, .ref 708, .ref 715, .ref 722, .ref 729, .ref 736, .ref 743, .ref 750, .ref 757, .ref 764, .ref 771, .ref 778]), (858, [.ref 785, .ref 792, .ref 797, .ref 804])]
def tupsV : List (Addr × List V) := tupsV0 ++ (tupsV1 ++ (tupsV2 ++ (tupsV3 ++ (tupsV4 ++ (tupsV5 ++ (tupsV6))))))
def frontV : List Addr := [3, 89, 88, 116, 115, 235, 234, 297, 296, 438, 437, 627, 626, 952, 951, 86, 113, 232, 252, 259] ++ [266, 273, 280, 287, 294, 435, 591, 596, 603, 610, 617, 624, 928, 935, 942, 949]
def addrsV : List Addr := frontV ++ (tupsV.map (·.1) ++ (fnsV.map (·.a) ++ fnsV.map (·.c)))
def namesV0 : List Str := [Str.ofString "OUTSIDE", Str.ofString "NO_TABLE", Str.ofString "BAD_TEXT", Str.ofString "NOT_THERE", Str.ofString "NO_PERMUTATION_arguments", Str.ofString "NOT_ALL", Str.ofString "INVALID", Str.ofString "GREATEST_BYTE", Str.ofString "GREATEST_CARD", Str.ofString "GREATEST_PLAYER", Str.ofString "GREATEST_COALITION", Str.ofString "MOST_RANKED", Str.ofString "MOST_ENTRIES", Str.ofString "GREATEST_NUMBER", Str.ofString "A_TABLE", Str.ofString "A_CARD", Str.ofString "AN_ACTION", Str.ofString "A_LOG", Str.ofString "A_ROW", Str.ofString "A_SHORT_ROW", Str.ofString "NUMBERS", Str.ofString "LISTS", Str.ofString "Refused", Str.ofString "need", Str.ofString "Call", Str.ofString "read_call", Str.ofString "need_list", Str.ofString "need_ranges", Str.ofString "LINE_END", Str.ofString "SPACE"]
def namesV1 : List Str := [Str.ofString "FIRST_DIGIT", Str.ofString "LAST_DIGIT", Str.ofString "FIRST_LETTER", Str.ofString "LAST_LETTER", Str.ofString "LONGEST_NAME", Str.ofString "LONGEST_NUMBER", Str.ofString "RESERVED", Str.ofString "bytes_of", Str.ofString "lines_of", Str.ofString "token_end", Str.ofString "tokens_of", Str.ofString "words_of", Str.ofString "is_digit", Str.ofString "is_letter", Str.ofString "is_reserved", Str.ofString "is_name", Str.ofString "is_number", Str.ofString "value_of", Str.ofString "line_of", Str.ofString "SUIT", Str.ofString "RANK_tables", Str.ofString "EXTRA", Str.ofString "PLAYER", Str.ofString "KIND_WORDS", Str.ofString "MOST_NAMES", Str.ofString "MOST_COPIES", Str.ofString "MOST_CARDS", Str.ofString "FEWEST_PLAYERS", Str.ofString "NOT_ALLOWED", Str.ofString "OUT_OF_RANGE"]
def namesV2 : List Str := [Str.ofString "NAME_USED", Str.ofString "TOO_MANY_NAMES", Str.ofString "TOO_MANY_CARDS", Str.ofString "TOO_FEW", Str.ofString "TableFault", Str.ofString "Table", Str.ofString "kind_of", Str.ofString "used_names", Str.ofString "second_of", Str.ofString "need_no_third", Str.ofString "read_name", Str.ofString "read_copies", Str.ofString "read_line", Str.ofString "read_table", Str.ofString "name_lines", Str.ofString "text_of", Str.ofString "is_extra", Str.ofString "parts_of", Str.ofString "card_words", Str.ofString "card_text", Str.ofString "place_among", Str.ofString "copy_of", Str.ofString "card_of", Str.ofString "LAYS", Str.ofString "PERMITS", Str.ofString "TAKES", Str.ofString "DEED_WORDS", Str.ofString "EVERYBODY", Str.ofString "Action", Str.ofString "player_of"]
def namesV3 : List Str := [Str.ofString "receiver_of", Str.ofString "position_of", Str.ofString "read_permits", Str.ofString "read_action", Str.ofString "action_of", Str.ofString "log_of", Str.ofString "receiver_word", Str.ofString "action_line", Str.ofString "POWERS", Str.ofString "trace_of", Str.ofString "deal_of", Str.ofString "missing_grants", Str.ofString "can_see", Str.ofString "members_of", Str.ofString "is_seen", Str.ofString "seen_positions", Str.ofString "place_in_trace", Str.ofString "known_entries", Str.ofString "card_below", Str.ofString "possible_cards", Str.ofString "open_count", Str.ofString "probability_of", Str.ofString "VALID", Str.ofString "LAID_ALREADY", Str.ofString "NO_PERMUTATION_plays", Str.ofString "NOT_ALL_LAID", Str.ofString "NO_POSITION", Str.ofString "GRANTED_ALREADY", Str.ofString "CLAIMED_ALREADY", Str.ofString "Play"]
def namesV4 : List Str := [Str.ofString "first_invalid", Str.ofString "is_consistent", Str.ofString "counted", Str.ofString "need_card", Str.ofString "need_player", Str.ofString "need_coalition", Str.ofString "need_all", Str.ofString "print_table", Str.ofString "card_info", Str.ofString "find_card", Str.ofString "perform", Str.ofString "print_log", Str.ofString "validate_log", Str.ofString "deal", Str.ofString "trace", Str.ofString "tell_can_see", Str.ofString "positions_seen", Str.ofString "tell_known_entries", Str.ofString "open_entry_count", Str.ofString "tell_possible_cards", Str.ofString "card_probability", Str.ofString "tell_owners", Str.ofString "tell_missing_grants", Str.ofString "summary", Str.ofString "verify_log", Str.ofString "is_permutation", Str.ofString "composed", Str.ofString "inverse_of", Str.ofString "cycle_from", Str.ofString "cycles_of"]
def namesV5 : List Str := [Str.ofString "factorial_of", Str.ofString "permutation_at", Str.ofString "number_of", Str.ofString "LOAD", Str.ofString "CHECK", Str.ofString "FIRST_OF_TABLE", Str.ofString "COMPOSE", Str.ofString "INVERSE", Str.ofString "CYCLES", Str.ofString "UNRANK", Str.ofString "RANK_desk", Str.ofString "FIRST_BEHIND", Str.ofString "DEEDS", Str.ofString "LATER_DEEDS", Str.ofString "need_permutation", Str.ofString "compose", Str.ofString "inverse", Str.ofString "cycles", Str.ofString "unrank", Str.ofString "rank", Str.ofString "fields_of_orders", Str.ofString "check_table", Str.ofString "Desk", Str.ofString "answer_of"]
def namesV : List Str := namesV0 ++ (namesV1 ++ (namesV2 ++ (namesV3 ++ (namesV4 ++ (namesV5)))))
/-! ### the facts as the run is asked for them: of the heap g by addresses -/
def fnA (g : Addr → Option Obj) (d : FD) : He.FnW := match g d.a with
  | some ⟨_, _, .func fd, _⟩ => some (fd.name, fd.qualname, fd.params, fd.body, fd.scope, fd.globals, fd.closure, fd.builtins)
  | _ => none
def FD.val (d : FD) : He.FnW := some (d.x, d.q, defArgs d.st, .stmts (defBody d.st), defScope d.st, mainGlobals, [], builtinsNs)
def fnB (g : Addr → Option Obj) (d : FD) : Bool := match g d.a with
  | some ⟨_, _, .func fd, _⟩ => (match fd.code, fd.defaults with
    | .ref c, .none => c == d.c && (match g d.c with
      | some ⟨_, _, .fields vs, _⟩ => (match vs.toList with | _ :: .str n _ :: _ => n == d.q | _ => false)
      | _ => false)
    | _, _ => false)
  | _ => false
def tupG (g : Addr → Option Obj) (q : Addr × List V) : Bool := match g q.1 with
  | some ⟨.type c, _, .seq its _, _⟩ => decide (c = "tuple") && (decide (its.size ≤ sizeLine) && He.relAll q.2 its.toList)
  | _ => false
def entO (o : Option V) (e : DictEntry) : Bool := match o with
  | some v => He.relB v e.val
  | none => true
def entB : List (Str × Option V) → List DictEntry → Bool
  | [], [] => true
  | (x, o) :: r, e :: es => (e.key.isStr x && entO o e) && entB r es
  | _, _ => false
def globB (g : Addr → Option Obj) : Bool := match g mainGlobals with
  | some ⟨_, _, .dict es _, _⟩ => entB globV es.toList
  | _ => false
def oexB (K : PySem.W.Frag) (C : Addr) : Bool := (match K.lookup C with
  | some ⟨.type "type", _, .cls cd, sl⟩ => (match cd.mro, sl.toList with
    | .ref C' :: bm, [_, _, _, _, some (.builtin n), _] => (C' == C && n == "ValueError.__new__") && (!cd.hasDel && (cd.hasDict && PySem.HandSPX.refsVE bm))
    | _, _ => false)
  | _ => false) && (He.eqO (PySem.W.findIn K (.ref C) "__setattr__") (some (some (.builtin "object.__setattr__"))) && (decide (PySem.W.subIn K (.ref C) (.type "BaseException") = some true) && (decide (PySem.W.typeIn K (.ref C) = some (.type "type")) && PySem.W.keepIn K (.ref C))))
/-- an own error's class, its fields, its __init__ -/
def errB (K : PySem.W.Frag) (C f : Addr) (fs : List Str) : Bool :=
  (oexB K C && xfB K C) && ((fs.all fun g => He.eqO (PySem.W.findIn K (.ref C) g) (some none)) &&
    (He.eqO (PySem.W.findIn K (.ref C) "__init__") (some (some (.ref f))) &&
      (decide (PySem.W.typeIn K (.ref f) = some (.type "function")) && decide (PySem.W.exmOne K (.ref C) (.ref C) = some true))))
/-- an own class: its instances are made, its attributes, its methods -/
def clsB (K : PySem.W.Frag) (C f : Addr) (fs : List Str) (ms : List (Str × Addr)) : Bool :=
  (PySem.W.plainGet K C Str.empty && (PySem.W.hasDictIn K C && (PySem.W.plainOver K C && He.eqO (PySem.W.findIn K (.ref C) "__setattr__") (some (some (.builtin "object.__setattr__")))))) &&
  ((PySem.W.makesIn K C && (He.eqO (PySem.W.findIn K (.ref C) "__init__") (some (some (.ref f))) && (PySem.W.isFn K (.ref f) && PySem.W.keepIn K (.ref C)))) &&
  ((fs.all fun g => He.eqO (PySem.W.findIn K (.ref C) g) (some none)) && (ms.all fun m => He.eqO (PySem.W.findIn K (.ref C) m.1) (some (some (.ref m.2))) && PySem.W.isFn K (.ref m.2))))
def clsL (K : PySem.W.Frag) : List Bool := [clsB K 116 113 ["operation", "numbers", "rows"] [],
  clsB K 297 252 ["names", "copies"] [("declare", 259), ("many", 266), ("grid_size", 273), ("first_extra", 280), ("card_count", 287), ("player_count", 294)],
  clsB K 438 435 ["deed", "player", "numbers"] [],
  clsB K 627 591 ["table", "layers", "grants", "owners", "actions"] [("all_laid", 596), ("has_granted", 603), ("reason_to_lay", 610), ("reason_against", 617), ("perform", 624)],
  clsB K 952 928 ["play"] [("load_table", 935), ("at_table", 942), ("fields", 949)]]
def clsV (K : PySem.W.Frag) : Bool := (clsL K).all id
def errV (K : PySem.W.Frag) : Bool := errB K 89 86 ["code"] && errB K 235 232 ["kind", "place"]
abbrev AlV : Type := Bool × List He.FnW
def exV (K : PySem.W.Frag) : Bool := clsV K && errV K
def obsV (g : Addr → Option Obj) : AlV := (((fnsV.all (fnB g) && tupsV.all (tupG g)) && globB g) && exV (He.frG g addrsV), fnsV.map (fnA g))
def valV : AlV := (true, fnsV.map FD.val)
def obV (s : PySem.W.SharedT) : AlV := obsV (HandSHeadRun.getT s)
abbrev qv : Program := PySem.W.view PR [183]
/-! ### what the facts give -/
theorem lookup_frG {g : Addr → Option Obj} {a : Addr} {o : Obj} (h : g a = some o) : ∀ {as : List Addr}, a ∈ as → (He.frG g as).lookup a = some o
  | [], m => nomatch m
  | b :: r, m => by
    unfold He.frG
    by_cases e : a = b
    · subst e
      rw [List.filterMap_cons, h]
      exact List.lookup_cons_self
    · have m2 : a ∈ r := (List.mem_cons.mp m).resolve_left e
      have ih := lookup_frG h m2
      unfold He.frG at ih
      cases hb : g b with
      | none =>
        rw [List.filterMap_cons, hb]
        exact ih
      | some ob =>
        rw [List.filterMap_cons, hb]
        show (match a == b with | true => some ob | false => List.lookup a _) = some o
        rw [beq_false_of_ne e]
        exact ih
theorem oexB_ok {K : PySem.W.Frag} {C : Addr} (h : oexB K C = true) : OexC K C := by
  obtain ⟨h1, h2⟩ := He.ba h
  obtain ⟨h3, h4⟩ := He.ba h2
  obtain ⟨h5, h6⟩ := He.ba h4
  obtain ⟨h7, h8⟩ := He.ba h6
  refine ⟨?_, He.eqO_ok h3, of_decide_eq_true h5, of_decide_eq_true h7, h8⟩
  split at h1
  · rename_i dd cd sl ho
    split at h1
    · rename_i C' bm k0 k1 k2 k3 n k5 hm hs
      simp only [Bool.and_eq_true, beq_iff_eq, Bool.not_eq_true'] at h1
      obtain ⟨⟨e1, e2⟩, hdel, hdict, hv⟩ := h1
      subst e1 e2
      obtain ⟨nm, bs, mro, ns, qn, hd, sn, sub, ab, col, del⟩ := cd
      dsimp only at hm hdel hdict
      subst hm hdel hdict
      have hsl : sl = #[k0, k1, k2, k3, some (.builtin "ValueError.__new__"), k5] := by
        obtain ⟨l⟩ := sl
        simp only at hs
        rw [hs]
      subst hsl
      exact ⟨nm, qn, ns, bs, bm, sn, sub, ab, col, dd, k0, k1, k2, k3, k5, ho, hv⟩
    · cases h1
  · cases h1
structure ErrC (K : PySem.W.Frag) (C f : Addr) (fs : List Str) : Prop where
  ox : OexC K C
  xf : XfC K C
  no : ∀ g ∈ fs, PySem.W.findIn K (.ref C) g = some none
  ini : PySem.W.findIn K (.ref C) "__init__" = some (some (.ref f))
  fnc : PySem.W.typeIn K (.ref f) = some (.type "function")
  same : PySem.W.exmOne K (.ref C) (.ref C) = some true
theorem errB_ok {K : PySem.W.Frag} {C f : Addr} {fs : List Str} (h : errB K C f fs = true) : ErrC K C f fs := by
  obtain ⟨h1, h2⟩ := He.ba h
  obtain ⟨h3, h4⟩ := He.ba h1
  obtain ⟨h5, h6⟩ := He.ba h2
  obtain ⟨h7, h8⟩ := He.ba h6
  obtain ⟨h9, h0⟩ := He.ba h8
  exact ⟨oexB_ok h3, xfB_ok h4, fun g hg => He.eqO_ok (List.all_eq_true.mp h5 g hg), He.eqO_ok h7, of_decide_eq_true h9, of_decide_eq_true h0⟩
structure ClsC (K : PySem.W.Frag) (C f : Addr) (fs : List Str) (ms : List (Str × Addr)) : Prop where
  cl : Cls K C
  mkr : Mk K C f
  no : ∀ g ∈ fs, NoAttr K C g
  me : ∀ m ∈ ms, PySem.W.keepIn K (.ref m.2) = true → Meth K C m.1 m.2
theorem clsB_ok {K : PySem.W.Frag} {C f : Addr} {fs : List Str} {ms : List (Str × Addr)} (h : clsB K C f fs ms = true) : ClsC K C f fs ms := by
  obtain ⟨h1, h2⟩ := He.ba h
  obtain ⟨h3, h4⟩ := He.ba h2
  obtain ⟨h5, h6⟩ := He.ba h4
  obtain ⟨a1, a⟩ := He.ba h1
  obtain ⟨a2, a⟩ := He.ba a
  obtain ⟨a3, a4⟩ := He.ba a
  obtain ⟨b1, b⟩ := He.ba h3
  obtain ⟨b2, b⟩ := He.ba b
  obtain ⟨b3, b4⟩ := He.ba b
  refine ⟨⟨a1, a2, a3, He.eqO_ok a4⟩, ⟨b1, He.eqO_ok b2, b3, b4⟩, fun g hg => He.eqO_ok (List.all_eq_true.mp h5 g hg), fun m hm kp => ?_⟩
  obtain ⟨z1, z2⟩ := He.ba (List.all_eq_true.mp h6 m hm)
  exact ⟨He.eqO_ok z1, z2, kp⟩
/-- what the top has written, as the proof leans on it -/
structure SaysV (K : PySem.W.Frag) : Prop where
  fn : ∀ d ∈ fnsV, ∃ fd, Fun K d.x d.q d.st d.a fd
  tup : ∀ q ∈ tupsV, ∀ H : Hp, SqT K H q.1 q.2
  ent : ∃ c d es n sl, K.lookup mainGlobals = some ⟨c, d, .dict es n, sl⟩ ∧ entB globV es.toList = true
  cls : clsV K = true
  err : errV K = true
theorem fun_of {g : Addr → Option Obj} {K : PySem.W.Frag} {d : FD} (hk : ∀ a o, a = d.a ∨ a = d.c → g a = some o → K.lookup a = some o) (h1 : fnB g d = true) (h2 : fnA g d = d.val) : ∃ fd, Fun K d.x d.q d.st d.a fd := by
  unfold fnB at h1
  unfold fnA at h2
  split at h1
  · rename_i oc od fd sl e
    rw [e] at h2
    split at h1
    · rename_i cc ec ed
      obtain ⟨e1, e2⟩ := He.ba h1
      have e3 : cc = d.c := beq_iff_eq.mp e1
      have lk := hk d.a _ (.inl rfl) e
      obtain ⟨n1, n2, n3, n4, n5, n6, n7, n8, n9, n10, n11, n12, n13, n14, n15⟩ := fd
      have e4 : (some (n1, n2, n3, n4, n5, n6, n7, n15) : He.FnW) = some (d.x, d.q, defArgs d.st, .stmts (defBody d.st), defScope d.st, mainGlobals, [], builtinsNs) := h2
      simp only [Option.some.injEq, Prod.mk.injEq] at e4
      obtain ⟨i1, i2, i3, i4, i5, i6, i7, i8⟩ := e4
      dsimp only at ec ed
      subst i1 i2 i3 i4 i5 i6 i7 i8 ec ed e3
      refine ⟨_, ⟨oc, od, n9, n10, n11, n12, .ref d.c, n14, sl, rfl, lk, ?_⟩, ?_⟩
      · split at e2
        · rename_i oc2 od2 vs sl2 q2
          have lk2 := hk d.c _ (.inr rfl) q2
          unfold PySem.W.codeIn
          dsimp only
          rw [lk2]
          exact e2
        · cases e2
      · unfold PySem.W.keepIn
        dsimp only
        rw [lk]
    · cases h1
  · cases h1
theorem tupG_ok {g : Addr → Option Obj} {K : PySem.W.Frag} {q : Addr × List V} (hk : ∀ o, g q.1 = some o → K.lookup q.1 = some o) (h : tupG g q = true) (H : Hp) : SqT K H q.1 q.2 := by
  unfold tupG at h
  split at h
  · rename_i c od its n sl e
    obtain ⟨h1, h2⟩ := He.ba h
    obtain ⟨h3, h4⟩ := He.ba h2
    exact .inr ⟨_, its, n, hk _ e, congrArg Value.type (of_decide_eq_true h1), rfl, of_decide_eq_true h3, He.relAll_ok h4⟩
  · cases h
theorem says_of {g : Addr → Option Obj} (e : obsV g = valV) : SaysV (He.frG g addrsV) := by
  have e1 : (((fnsV.all (fnB g) && tupsV.all (tupG g)) && globB g) && exV (He.frG g addrsV)) = true := congrArg (fun z : AlV => z.1) e
  have e2 : fnsV.map (fnA g) = fnsV.map FD.val := congrArg (fun z : AlV => z.2) e
  obtain ⟨h1, h2⟩ := He.ba e1
  obtain ⟨h3, h4⟩ := He.ba h1
  obtain ⟨h5, h6⟩ := He.ba h3
  obtain ⟨h7, h8⟩ := He.ba h2
  refine ⟨fun d hd => ?_, fun q hq H => ?_, ?_, h7, h8⟩
  · refine fun_of (fun a o ha hg => lookup_frG hg ?_) (List.all_eq_true.mp h5 d hd) (List.map_inj_left.mp e2 d hd)
    unfold addrsV
    rw [List.mem_append, List.mem_append, List.mem_append]
    rcases ha with ha | ha
    · exact .inr (.inr (.inl (ha ▸ List.mem_map_of_mem hd)))
    · exact .inr (.inr (.inr (ha ▸ List.mem_map_of_mem hd)))
  · refine tupG_ok (fun o hg => lookup_frG hg ?_) (List.all_eq_true.mp h6 q hq) H
    unfold addrsV
    rw [List.mem_append, List.mem_append]
    exact .inr (.inl (List.mem_map_of_mem hq))
  · unfold globB at h4
    split at h4
    · rename_i c d es n sl q
      refine ⟨c, d, es, n, sl, lookup_frG q ?_, h4⟩
      exact List.mem_append_left _ (show (3 : Nat) ∈ frontV by decide)
    · cases h4
def hookV : PySem.W.Hook where
  α := AlV
  obs := fun s => obsV s.heap.get?
  val := fun _ => valV
  says := fun _ h => ∃ K : PySem.W.Frag, K.In h ∧ SaysV K
  of := fun _ _ e => ⟨_, He.frG_in, says_of e⟩
  keeps := fun _ _ _ ⟨K, hK, c⟩ k => ⟨K, PySem.W.Frag.In.keeps hK k, c⟩
theorem obV_eq (s : PySem.W.SharedT) : obV s = hookV.obs s.abs := by
  have e : HandSHeadRun.getT s = s.abs.heap.get? := funext fun a => HandSHeadRun.getT_eq s a
  unfold obV
  rw [e] <;> rfl
/-- the globals -/
theorem entB_find {x : Str} {v : V} : ∀ {l : List (Str × Option V)} {es : List DictEntry} {i : Nat}, entB l es = true → l[i]? = some (x, some v) → (l.map (·.1)).Nodup → ∃ e, es.find? (·.key.isStr x) = some e ∧ He.relB v e.val = true
  | [], _, i, _, h, _ => by simp at h
  | _ :: _, [], _, h, _, _ => by cases h
  | (y, o) :: r, e :: es, i, h, hi, nd => by
    obtain ⟨h1, h2⟩ := He.ba (show ((e.key.isStr y && entO o e) && entB r es) = true from h)
    obtain ⟨h3, h4⟩ := He.ba h1
    obtain ⟨nd1, nd2⟩ := List.nodup_cons.mp (show (y :: r.map (·.1)).Nodup from nd)
    cases i with
    | zero =>
      have e0 : (y, o) = (x, some v) := Option.some.inj hi
      cases e0
      exact ⟨e, by rw [List.find?_cons, h3], h4⟩
    | succ i =>
      have hi' : r[i]? = some (x, some v) := hi
      have hm : x ∈ r.map (·.1) := List.mem_map.mpr ⟨_, List.mem_of_getElem? hi', rfl⟩
      have ne : x ≠ y := fun z => nd1 (z ▸ hm)
      obtain ⟨e', q1, q2⟩ := entB_find h2 hi' nd2
      refine ⟨e', ?_, q2⟩
      have hf : e.key.isStr x = false := by
        cases hk : e.key with
        | str s t =>
          rw [hk] at h3
          have hs : (s == y) = true := h3
          show (s == x) = false
          rw [beq_iff_eq.mp hs]
          exact beq_false_of_ne (Ne.symm ne)
        | _ => rfl
      rw [List.find?_cons, hf]
      exact q1
theorem entB_none {x : Str} : ∀ {l : List (Str × Option V)} {es : List DictEntry}, entB l es = true → x ∉ l.map (·.1) → es.find? (·.key.isStr x) = none ∧ es.any (·.refKey) = false
  | [], [], _, _ => ⟨rfl, rfl⟩
  | [], _ :: _, h, _ => by cases h
  | _ :: _, [], h, _ => by cases h
  | (y, o) :: r, e :: es, h, hx => by
    obtain ⟨h1, h2⟩ := He.ba (show ((e.key.isStr y && entO o e) && entB r es) = true from h)
    obtain ⟨h3, h4⟩ := He.ba h1
    obtain ⟨n1, n2⟩ : x ≠ y ∧ x ∉ r.map (·.1) := ⟨fun z => hx (z ▸ List.mem_cons_self), fun z => hx (List.mem_cons_of_mem _ z)⟩
    obtain ⟨q1, q2⟩ := entB_none h2 n2
    cases hk : e.key with
    | str s t =>
      rw [hk] at h3
      have hs : (s == y) = true := h3
      have es' := beq_iff_eq.mp hs
      have hf : e.key.isStr x = false := by
        rw [hk]
        show (s == x) = false
        rw [es']
        exact beq_false_of_ne (Ne.symm n1)
      have hr : e.refKey = false := by
        unfold PySem.DictEntry.refKey
        rw [hk]
      exact ⟨by rw [List.find?_cons, hf]; exact q1, by rw [List.any_cons, hr, q2]; rfl⟩
    | _ =>
      rw [hk] at h3
      cases h3
theorem glob_nodup : (globV.map (·.1)).Nodup := by decide +kernel
/-- where a body stands: the written part, the module's names -/
structure Ctx (K : PySem.W.Frag) (mg : Str → Option Value) : Prop where
  s : SaysV K
  m : ∃ h : Heap, K.In h ∧ h.Ns mainGlobals mg
section
variable {K : PySem.W.Frag} {mg : Str → Option Value}
theorem Ctx.at (c : Ctx K mg) (i : Nat) {x : Str} {v : V} (h : globV[i]? = some (x, some v)) : ∃ u, mg x = some u ∧ RelV v u := by
  obtain ⟨h0, X, G⟩ := c.m
  obtain ⟨oc, od, es, n, sl, lk, hb⟩ := c.s.ent
  obtain ⟨e, q1, q2⟩ := entB_find hb h glob_nodup
  refine ⟨e.val, PySem.W.mg_of X G ?_, He.relB_ok q2⟩
  unfold PySem.W.nsIn
  rw [lk]
  dsimp only
  rw [q1]
theorem Ctx.glo (c : Ctx K mg) (i : Nat) {x : Str} {a : Addr} (h : globV[i]? = some (x, some (.ref a))) : mg x = some (.ref a) := by
  obtain ⟨u, h1, h2⟩ := c.at i h
  rw [h1, show u = Value.ref a from h2]
theorem Ctx.int (c : Ctx K mg) (i : Nat) {x : Str} {z : Int} (h : globV[i]? = some (x, some (.int z))) : ∃ t, mg x = some (.int z t) := by
  obtain ⟨u, h1, t, h2⟩ := c.at i h
  exact ⟨t, by rw [h1, h2]⟩
theorem Ctx.free (c : Ctx K mg) {x : Str} (h : x ∉ globV.map (·.1)) : mg x = none := by
  obtain ⟨h0, X, G⟩ := c.m
  obtain ⟨oc, od, es, n, sl, lk, hb⟩ := c.s.ent
  obtain ⟨q1, q2⟩ := entB_none hb h
  refine PySem.W.mg_none_of X G ?_
  unfold PySem.W.nsIn
  rw [lk]
  dsimp only
  rw [q1]
  dsimp only
  rw [q2]
  rfl
theorem Ctx.tup (c : Ctx K mg) (i : Nat) {a : Addr} {vs : List V} (h : tupsV[i]? = some (a, vs)) (H : Hp) : SqT K H a vs := c.s.tup _ (List.mem_of_getElem? h) H
theorem Ctx.fn (c : Ctx K mg) (i : Nat) {d : FD} (h : fnsV[i]? = some d) : ∃ fd, Fun K d.x d.q d.st d.a fd := c.s.fn _ (List.mem_of_getElem? h)
theorem Ctx.kp {x q : Str} {st : Stmt} (_ : Ctx K mg) (a : Addr) (h : ∃ fd, Fun K x q st a fd) : PySem.W.keepIn K (.ref a) = true := by
  obtain ⟨fd, F⟩ := h
  exact F.kp
theorem Ctx.cls (c : Ctx K mg) (i : Nat) {b : Bool} (h : (clsL K)[i]? = some b) : b = true := List.all_eq_true.mp c.s.cls _ (List.mem_of_getElem? h)
theorem er_Refused (c : Ctx K mg) : ErrC K c_Refused a_Refused_init ["code"] := errB_ok (He.ba c.s.err).1
theorem er_TableFault (c : Ctx K mg) : ErrC K c_TableFault a_TableFault_init ["kind", "place"] := errB_ok (He.ba c.s.err).2
theorem i_OUTSIDE (c : Ctx K mg) : ∃ t, mg "OUTSIDE" = some (.int (-1) t) := c.int 9 rfl
theorem i_NO_TABLE (c : Ctx K mg) : ∃ t, mg "NO_TABLE" = some (.int (-2) t) := c.int 10 rfl
theorem i_BAD_TEXT (c : Ctx K mg) : ∃ t, mg "BAD_TEXT" = some (.int (-3) t) := c.int 11 rfl
theorem i_NOT_THERE (c : Ctx K mg) : ∃ t, mg "NOT_THERE" = some (.int (-4) t) := c.int 12 rfl
theorem i_NO_PERMUTATION_arguments (c : Ctx K mg) : ∃ t, mg "NO_PERMUTATION_arguments" = some (.int (-5) t) := c.int 13 rfl
theorem i_NOT_ALL (c : Ctx K mg) : ∃ t, mg "NOT_ALL" = some (.int (-7) t) := c.int 14 rfl
theorem i_INVALID (c : Ctx K mg) : ∃ t, mg "INVALID" = some (.int (-10) t) := c.int 15 rfl
theorem i_GREATEST_BYTE (c : Ctx K mg) : ∃ t, mg "GREATEST_BYTE" = some (.int (255) t) := c.int 16 rfl
theorem i_GREATEST_CARD (c : Ctx K mg) : ∃ t, mg "GREATEST_CARD" = some (.int (51) t) := c.int 17 rfl
theorem i_GREATEST_PLAYER (c : Ctx K mg) : ∃ t, mg "GREATEST_PLAYER" = some (.int (5) t) := c.int 18 rfl
theorem i_GREATEST_COALITION (c : Ctx K mg) : ∃ t, mg "GREATEST_COALITION" = some (.int (63) t) := c.int 19 rfl
theorem i_MOST_RANKED (c : Ctx K mg) : ∃ t, mg "MOST_RANKED" = some (.int (19) t) := c.int 20 rfl
theorem i_MOST_ENTRIES (c : Ctx K mg) : ∃ t, mg "MOST_ENTRIES" = some (.int (52) t) := c.int 21 rfl
theorem i_GREATEST_NUMBER (c : Ctx K mg) : ∃ t, mg "GREATEST_NUMBER" = some (.int (1000000000000000000) t) := c.int 22 rfl
theorem g_A_TABLE (c : Ctx K mg) : mg "A_TABLE" = some (.ref 15) := c.glo 23 rfl
theorem g_A_CARD (c : Ctx K mg) : mg "A_CARD" = some (.ref 16) := c.glo 24 rfl
theorem g_AN_ACTION (c : Ctx K mg) : mg "AN_ACTION" = some (.ref 17) := c.glo 25 rfl
theorem g_A_LOG (c : Ctx K mg) : mg "A_LOG" = some (.ref 18) := c.glo 26 rfl
theorem g_A_ROW (c : Ctx K mg) : mg "A_ROW" = some (.ref 19) := c.glo 27 rfl
theorem g_A_SHORT_ROW (c : Ctx K mg) : mg "A_SHORT_ROW" = some (.ref 20) := c.glo 28 rfl
theorem g_NUMBERS (c : Ctx K mg) : mg "NUMBERS" = some (.ref 46) := c.glo 29 rfl
theorem g_LISTS (c : Ctx K mg) : mg "LISTS" = some (.ref 72) := c.glo 30 rfl
theorem g_Refused (c : Ctx K mg) : mg "Refused" = some (.ref 89) := c.glo 31 rfl
theorem g_need (c : Ctx K mg) : mg "need" = some (.ref 99) := c.glo 32 rfl
theorem g_Call (c : Ctx K mg) : mg "Call" = some (.ref 116) := c.glo 33 rfl
theorem g_read_call (c : Ctx K mg) : mg "read_call" = some (.ref 127) := c.glo 34 rfl
theorem g_need_list (c : Ctx K mg) : mg "need_list" = some (.ref 134) := c.glo 35 rfl
theorem g_need_ranges (c : Ctx K mg) : mg "need_ranges" = some (.ref 141) := c.glo 36 rfl
theorem i_LINE_END (c : Ctx K mg) : ∃ t, mg "LINE_END" = some (.int (10) t) := c.int 37 rfl
theorem i_SPACE (c : Ctx K mg) : ∃ t, mg "SPACE" = some (.int (32) t) := c.int 38 rfl
theorem i_FIRST_DIGIT (c : Ctx K mg) : ∃ t, mg "FIRST_DIGIT" = some (.int (48) t) := c.int 39 rfl
theorem i_LAST_DIGIT (c : Ctx K mg) : ∃ t, mg "LAST_DIGIT" = some (.int (57) t) := c.int 40 rfl
theorem i_FIRST_LETTER (c : Ctx K mg) : ∃ t, mg "FIRST_LETTER" = some (.int (97) t) := c.int 41 rfl
theorem i_LAST_LETTER (c : Ctx K mg) : ∃ t, mg "LAST_LETTER" = some (.int (122) t) := c.int 42 rfl
theorem i_LONGEST_NAME (c : Ctx K mg) : ∃ t, mg "LONGEST_NAME" = some (.int (12) t) := c.int 43 rfl
theorem i_LONGEST_NUMBER (c : Ctx K mg) : ∃ t, mg "LONGEST_NUMBER" = some (.int (3) t) := c.int 44 rfl
theorem g_RESERVED (c : Ctx K mg) : mg "RESERVED" = some (.ref 142) := c.glo 45 rfl
theorem g_bytes_of (c : Ctx K mg) : mg "bytes_of" = some (.ref 147) := c.glo 46 rfl
theorem g_lines_of (c : Ctx K mg) : mg "lines_of" = some (.ref 154) := c.glo 47 rfl
theorem g_token_end (c : Ctx K mg) : mg "token_end" = some (.ref 161) := c.glo 48 rfl
theorem g_tokens_of (c : Ctx K mg) : mg "tokens_of" = some (.ref 168) := c.glo 49 rfl
theorem g_words_of (c : Ctx K mg) : mg "words_of" = some (.ref 173) := c.glo 50 rfl
theorem g_is_digit (c : Ctx K mg) : mg "is_digit" = some (.ref 180) := c.glo 51 rfl
theorem g_is_letter (c : Ctx K mg) : mg "is_letter" = some (.ref 187) := c.glo 52 rfl
theorem g_is_reserved (c : Ctx K mg) : mg "is_reserved" = some (.ref 192) := c.glo 53 rfl
theorem g_is_name (c : Ctx K mg) : mg "is_name" = some (.ref 197) := c.glo 54 rfl
theorem g_is_number (c : Ctx K mg) : mg "is_number" = some (.ref 202) := c.glo 55 rfl
theorem g_value_of (c : Ctx K mg) : mg "value_of" = some (.ref 209) := c.glo 56 rfl
theorem g_line_of (c : Ctx K mg) : mg "line_of" = some (.ref 216) := c.glo 57 rfl
theorem i_SUIT (c : Ctx K mg) : ∃ t, mg "SUIT" = some (.int (0) t) := c.int 58 rfl
theorem i_RANK_tables (c : Ctx K mg) : ∃ t, mg "RANK_tables" = some (.int (1) t) := c.int 59 rfl
theorem i_EXTRA (c : Ctx K mg) : ∃ t, mg "EXTRA" = some (.int (2) t) := c.int 60 rfl
theorem i_PLAYER (c : Ctx K mg) : ∃ t, mg "PLAYER" = some (.int (3) t) := c.int 61 rfl
theorem g_KIND_WORDS (c : Ctx K mg) : mg "KIND_WORDS" = some (.ref 217) := c.glo 62 rfl
theorem g_MOST_NAMES (c : Ctx K mg) : mg "MOST_NAMES" = some (.ref 218) := c.glo 63 rfl
theorem i_MOST_COPIES (c : Ctx K mg) : ∃ t, mg "MOST_COPIES" = some (.int (4) t) := c.int 64 rfl
theorem i_MOST_CARDS (c : Ctx K mg) : ∃ t, mg "MOST_CARDS" = some (.int (52) t) := c.int 65 rfl
theorem i_FEWEST_PLAYERS (c : Ctx K mg) : ∃ t, mg "FEWEST_PLAYERS" = some (.int (2) t) := c.int 66 rfl
theorem i_NOT_ALLOWED (c : Ctx K mg) : ∃ t, mg "NOT_ALLOWED" = some (.int (1) t) := c.int 67 rfl
theorem i_OUT_OF_RANGE (c : Ctx K mg) : ∃ t, mg "OUT_OF_RANGE" = some (.int (3) t) := c.int 68 rfl
theorem i_NAME_USED (c : Ctx K mg) : ∃ t, mg "NAME_USED" = some (.int (4) t) := c.int 69 rfl
theorem i_TOO_MANY_NAMES (c : Ctx K mg) : ∃ t, mg "TOO_MANY_NAMES" = some (.int (7) t) := c.int 70 rfl
theorem i_TOO_MANY_CARDS (c : Ctx K mg) : ∃ t, mg "TOO_MANY_CARDS" = some (.int (8) t) := c.int 71 rfl
theorem i_TOO_FEW (c : Ctx K mg) : ∃ t, mg "TOO_FEW" = some (.int (9) t) := c.int 72 rfl
theorem g_TableFault (c : Ctx K mg) : mg "TableFault" = some (.ref 235) := c.glo 73 rfl
theorem g_Table (c : Ctx K mg) : mg "Table" = some (.ref 297) := c.glo 74 rfl
theorem g_kind_of (c : Ctx K mg) : mg "kind_of" = some (.ref 308) := c.glo 75 rfl
theorem g_used_names (c : Ctx K mg) : mg "used_names" = some (.ref 315) := c.glo 76 rfl
theorem g_second_of (c : Ctx K mg) : mg "second_of" = some (.ref 322) := c.glo 77 rfl
theorem g_need_no_third (c : Ctx K mg) : mg "need_no_third" = some (.ref 329) := c.glo 78 rfl
theorem g_read_name (c : Ctx K mg) : mg "read_name" = some (.ref 336) := c.glo 79 rfl
theorem g_read_copies (c : Ctx K mg) : mg "read_copies" = some (.ref 343) := c.glo 80 rfl
theorem g_read_line (c : Ctx K mg) : mg "read_line" = some (.ref 350) := c.glo 81 rfl
theorem g_read_table (c : Ctx K mg) : mg "read_table" = some (.ref 357) := c.glo 82 rfl
theorem g_name_lines (c : Ctx K mg) : mg "name_lines" = some (.ref 364) := c.glo 83 rfl
theorem g_text_of (c : Ctx K mg) : mg "text_of" = some (.ref 371) := c.glo 84 rfl
theorem g_is_extra (c : Ctx K mg) : mg "is_extra" = some (.ref 378) := c.glo 85 rfl
theorem g_parts_of (c : Ctx K mg) : mg "parts_of" = some (.ref 385) := c.glo 86 rfl
theorem g_card_words (c : Ctx K mg) : mg "card_words" = some (.ref 392) := c.glo 87 rfl
theorem g_card_text (c : Ctx K mg) : mg "card_text" = some (.ref 399) := c.glo 88 rfl
theorem g_place_among (c : Ctx K mg) : mg "place_among" = some (.ref 406) := c.glo 89 rfl
theorem g_copy_of (c : Ctx K mg) : mg "copy_of" = some (.ref 413) := c.glo 90 rfl
theorem g_card_of (c : Ctx K mg) : mg "card_of" = some (.ref 420) := c.glo 91 rfl
theorem i_LAYS (c : Ctx K mg) : ∃ t, mg "LAYS" = some (.int (0) t) := c.int 92 rfl
theorem i_PERMITS (c : Ctx K mg) : ∃ t, mg "PERMITS" = some (.int (1) t) := c.int 93 rfl
theorem i_TAKES (c : Ctx K mg) : ∃ t, mg "TAKES" = some (.int (2) t) := c.int 94 rfl
theorem g_DEED_WORDS (c : Ctx K mg) : mg "DEED_WORDS" = some (.ref 421) := c.glo 95 rfl
theorem i_EVERYBODY (c : Ctx K mg) : ∃ t, mg "EVERYBODY" = some (.int (-1) t) := c.int 96 rfl
theorem g_Action (c : Ctx K mg) : mg "Action" = some (.ref 438) := c.glo 97 rfl
theorem g_player_of (c : Ctx K mg) : mg "player_of" = some (.ref 449) := c.glo 98 rfl
theorem g_receiver_of (c : Ctx K mg) : mg "receiver_of" = some (.ref 456) := c.glo 99 rfl
theorem g_position_of (c : Ctx K mg) : mg "position_of" = some (.ref 463) := c.glo 100 rfl
theorem g_read_permits (c : Ctx K mg) : mg "read_permits" = some (.ref 470) := c.glo 101 rfl
theorem g_read_action (c : Ctx K mg) : mg "read_action" = some (.ref 475) := c.glo 102 rfl
theorem g_action_of (c : Ctx K mg) : mg "action_of" = some (.ref 482) := c.glo 103 rfl
theorem g_log_of (c : Ctx K mg) : mg "log_of" = some (.ref 487) := c.glo 104 rfl
theorem g_receiver_word (c : Ctx K mg) : mg "receiver_word" = some (.ref 494) := c.glo 105 rfl
theorem g_action_line (c : Ctx K mg) : mg "action_line" = some (.ref 499) := c.glo 106 rfl
theorem g_POWERS (c : Ctx K mg) : mg "POWERS" = some (.ref 500) := c.glo 107 rfl
theorem g_trace_of (c : Ctx K mg) : mg "trace_of" = some (.ref 507) := c.glo 108 rfl
theorem g_deal_of (c : Ctx K mg) : mg "deal_of" = some (.ref 512) := c.glo 109 rfl
theorem g_missing_grants (c : Ctx K mg) : mg "missing_grants" = some (.ref 517) := c.glo 110 rfl
theorem g_can_see (c : Ctx K mg) : mg "can_see" = some (.ref 524) := c.glo 111 rfl
theorem g_members_of (c : Ctx K mg) : mg "members_of" = some (.ref 529) := c.glo 112 rfl
theorem g_is_seen (c : Ctx K mg) : mg "is_seen" = some (.ref 534) := c.glo 113 rfl
theorem g_seen_positions (c : Ctx K mg) : mg "seen_positions" = some (.ref 539) := c.glo 114 rfl
theorem g_place_in_trace (c : Ctx K mg) : mg "place_in_trace" = some (.ref 546) := c.glo 115 rfl
theorem g_known_entries (c : Ctx K mg) : mg "known_entries" = some (.ref 551) := c.glo 116 rfl
theorem g_card_below (c : Ctx K mg) : mg "card_below" = some (.ref 558) := c.glo 117 rfl
theorem g_possible_cards (c : Ctx K mg) : mg "possible_cards" = some (.ref 563) := c.glo 118 rfl
theorem g_open_count (c : Ctx K mg) : mg "open_count" = some (.ref 570) := c.glo 119 rfl
theorem g_probability_of (c : Ctx K mg) : mg "probability_of" = some (.ref 577) := c.glo 120 rfl
theorem i_VALID (c : Ctx K mg) : ∃ t, mg "VALID" = some (.int (0) t) := c.int 121 rfl
theorem i_LAID_ALREADY (c : Ctx K mg) : ∃ t, mg "LAID_ALREADY" = some (.int (1) t) := c.int 122 rfl
theorem i_NO_PERMUTATION_plays (c : Ctx K mg) : ∃ t, mg "NO_PERMUTATION_plays" = some (.int (2) t) := c.int 123 rfl
theorem i_NOT_ALL_LAID (c : Ctx K mg) : ∃ t, mg "NOT_ALL_LAID" = some (.int (3) t) := c.int 124 rfl
theorem i_NO_POSITION (c : Ctx K mg) : ∃ t, mg "NO_POSITION" = some (.int (4) t) := c.int 125 rfl
theorem i_GRANTED_ALREADY (c : Ctx K mg) : ∃ t, mg "GRANTED_ALREADY" = some (.int (5) t) := c.int 126 rfl
theorem i_CLAIMED_ALREADY (c : Ctx K mg) : ∃ t, mg "CLAIMED_ALREADY" = some (.int (6) t) := c.int 127 rfl
theorem g_Play (c : Ctx K mg) : mg "Play" = some (.ref 627) := c.glo 128 rfl
theorem g_first_invalid (c : Ctx K mg) : mg "first_invalid" = some (.ref 638) := c.glo 129 rfl
theorem g_is_consistent (c : Ctx K mg) : mg "is_consistent" = some (.ref 645) := c.glo 130 rfl
theorem g_counted (c : Ctx K mg) : mg "counted" = some (.ref 652) := c.glo 131 rfl
theorem g_need_card (c : Ctx K mg) : mg "need_card" = some (.ref 659) := c.glo 132 rfl
theorem g_need_player (c : Ctx K mg) : mg "need_player" = some (.ref 666) := c.glo 133 rfl
theorem g_need_coalition (c : Ctx K mg) : mg "need_coalition" = some (.ref 673) := c.glo 134 rfl
theorem g_need_all (c : Ctx K mg) : mg "need_all" = some (.ref 680) := c.glo 135 rfl
theorem g_print_table (c : Ctx K mg) : mg "print_table" = some (.ref 687) := c.glo 136 rfl
theorem g_card_info (c : Ctx K mg) : mg "card_info" = some (.ref 694) := c.glo 137 rfl
theorem g_find_card (c : Ctx K mg) : mg "find_card" = some (.ref 701) := c.glo 138 rfl
theorem g_perform (c : Ctx K mg) : mg "perform" = some (.ref 708) := c.glo 139 rfl
theorem g_print_log (c : Ctx K mg) : mg "print_log" = some (.ref 715) := c.glo 140 rfl
theorem g_validate_log (c : Ctx K mg) : mg "validate_log" = some (.ref 722) := c.glo 141 rfl
theorem g_deal (c : Ctx K mg) : mg "deal" = some (.ref 729) := c.glo 142 rfl
theorem g_trace (c : Ctx K mg) : mg "trace" = some (.ref 736) := c.glo 143 rfl
theorem g_tell_can_see (c : Ctx K mg) : mg "tell_can_see" = some (.ref 743) := c.glo 144 rfl
theorem g_positions_seen (c : Ctx K mg) : mg "positions_seen" = some (.ref 750) := c.glo 145 rfl
theorem g_tell_known_entries (c : Ctx K mg) : mg "tell_known_entries" = some (.ref 757) := c.glo 146 rfl
theorem g_open_entry_count (c : Ctx K mg) : mg "open_entry_count" = some (.ref 764) := c.glo 147 rfl
theorem g_tell_possible_cards (c : Ctx K mg) : mg "tell_possible_cards" = some (.ref 771) := c.glo 148 rfl
theorem g_card_probability (c : Ctx K mg) : mg "card_probability" = some (.ref 778) := c.glo 149 rfl
theorem g_tell_owners (c : Ctx K mg) : mg "tell_owners" = some (.ref 785) := c.glo 150 rfl
theorem g_tell_missing_grants (c : Ctx K mg) : mg "tell_missing_grants" = some (.ref 792) := c.glo 151 rfl
theorem g_summary (c : Ctx K mg) : mg "summary" = some (.ref 797) := c.glo 152 rfl
theorem g_verify_log (c : Ctx K mg) : mg "verify_log" = some (.ref 804) := c.glo 153 rfl
theorem g_is_permutation (c : Ctx K mg) : mg "is_permutation" = some (.ref 811) := c.glo 154 rfl
theorem g_composed (c : Ctx K mg) : mg "composed" = some (.ref 816) := c.glo 155 rfl
theorem g_inverse_of (c : Ctx K mg) : mg "inverse_of" = some (.ref 823) := c.glo 156 rfl
theorem g_cycle_from (c : Ctx K mg) : mg "cycle_from" = some (.ref 830) := c.glo 157 rfl
theorem g_cycles_of (c : Ctx K mg) : mg "cycles_of" = some (.ref 837) := c.glo 158 rfl
theorem g_factorial_of (c : Ctx K mg) : mg "factorial_of" = some (.ref 844) := c.glo 159 rfl
theorem g_permutation_at (c : Ctx K mg) : mg "permutation_at" = some (.ref 851) := c.glo 160 rfl
theorem g_number_of (c : Ctx K mg) : mg "number_of" = some (.ref 856) := c.glo 161 rfl
theorem i_LOAD (c : Ctx K mg) : ∃ t, mg "LOAD" = some (.int (0) t) := c.int 162 rfl
theorem i_CHECK (c : Ctx K mg) : ∃ t, mg "CHECK" = some (.int (1) t) := c.int 163 rfl
theorem i_FIRST_OF_TABLE (c : Ctx K mg) : ∃ t, mg "FIRST_OF_TABLE" = some (.int (2) t) := c.int 164 rfl
theorem i_COMPOSE (c : Ctx K mg) : ∃ t, mg "COMPOSE" = some (.int (16) t) := c.int 165 rfl
theorem i_INVERSE (c : Ctx K mg) : ∃ t, mg "INVERSE" = some (.int (17) t) := c.int 166 rfl
theorem i_CYCLES (c : Ctx K mg) : ∃ t, mg "CYCLES" = some (.int (18) t) := c.int 167 rfl
theorem i_UNRANK (c : Ctx K mg) : ∃ t, mg "UNRANK" = some (.int (19) t) := c.int 168 rfl
theorem i_RANK_desk (c : Ctx K mg) : ∃ t, mg "RANK_desk" = some (.int (20) t) := c.int 169 rfl
theorem i_FIRST_BEHIND (c : Ctx K mg) : ∃ t, mg "FIRST_BEHIND" = some (.int (21) t) := c.int 170 rfl
theorem g_DEEDS (c : Ctx K mg) : mg "DEEDS" = some (.ref 857) := c.glo 171 rfl
theorem g_LATER_DEEDS (c : Ctx K mg) : mg "LATER_DEEDS" = some (.ref 858) := c.glo 172 rfl
theorem g_need_permutation (c : Ctx K mg) : mg "need_permutation" = some (.ref 865) := c.glo 173 rfl
theorem g_compose (c : Ctx K mg) : mg "compose" = some (.ref 872) := c.glo 174 rfl
theorem g_inverse (c : Ctx K mg) : mg "inverse" = some (.ref 879) := c.glo 175 rfl
theorem g_cycles (c : Ctx K mg) : mg "cycles" = some (.ref 886) := c.glo 176 rfl
theorem g_unrank (c : Ctx K mg) : mg "unrank" = some (.ref 893) := c.glo 177 rfl
theorem g_rank (c : Ctx K mg) : mg "rank" = some (.ref 900) := c.glo 178 rfl
theorem g_fields_of_orders (c : Ctx K mg) : mg "fields_of_orders" = some (.ref 907) := c.glo 179 rfl
theorem g_check_table (c : Ctx K mg) : mg "check_table" = some (.ref 914) := c.glo 180 rfl
theorem g_Desk (c : Ctx K mg) : mg "Desk" = some (.ref 952) := c.glo 181 rfl
theorem g_answer_of (c : Ctx K mg) : mg "answer_of" = some (.ref 963) := c.glo 182 rfl
theorem g_answers (c : Ctx K mg) : mg "answers" = some (.ref 970) := c.glo 183 rfl
theorem b_ValueError (c : Ctx K mg) : mg "ValueError" = none := c.free (by decide +kernel)
theorem b_all (c : Ctx K mg) : mg "all" = none := c.free (by decide +kernel)
theorem b_any (c : Ctx K mg) : mg "any" = none := c.free (by decide +kernel)
theorem b_enumerate (c : Ctx K mg) : mg "enumerate" = none := c.free (by decide +kernel)
theorem b_int (c : Ctx K mg) : mg "int" = none := c.free (by decide +kernel)
theorem b_len (c : Ctx K mg) : mg "len" = none := c.free (by decide +kernel)
theorem b_list (c : Ctx K mg) : mg "list" = none := c.free (by decide +kernel)
theorem b_min (c : Ctx K mg) : mg "min" = none := c.free (by decide +kernel)
theorem b_ord (c : Ctx K mg) : mg "ord" = none := c.free (by decide +kernel)
theorem b_range (c : Ctx K mg) : mg "range" = none := c.free (by decide +kernel)
theorem b_reversed (c : Ctx K mg) : mg "reversed" = none := c.free (by decide +kernel)
theorem b_sorted (c : Ctx K mg) : mg "sorted" = none := c.free (by decide +kernel)
theorem b_str (c : Ctx K mg) : mg "str" = none := c.free (by decide +kernel)
theorem b_zip (c : Ctx K mg) : mg "zip" = none := c.free (by decide +kernel)
theorem tp_15 (c : Ctx K mg) (H : Hp) : SqT K H 15 [.int (2000), .int (255)] := c.tup 0 rfl H
theorem tp_16 (c : Ctx K mg) (H : Hp) : SqT K H 16 [.int (60), .int (255)] := c.tup 1 rfl H
theorem tp_17 (c : Ctx K mg) (H : Hp) : SqT K H 17 [.int (400), .int (255)] := c.tup 2 rfl H
theorem tp_18 (c : Ctx K mg) (H : Hp) : SqT K H 18 [.int (3000), .int (255)] := c.tup 3 rfl H
theorem tp_19 (c : Ctx K mg) (H : Hp) : SqT K H 19 [.int (52), .int (51)] := c.tup 4 rfl H
theorem tp_20 (c : Ctx K mg) (H : Hp) : SqT K H 20 [.int (19), .int (51)] := c.tup 5 rfl H
theorem tp_21 (c : Ctx K mg) (H : Hp) : SqT K H 21 [] := c.tup 6 rfl H
theorem tp_22 (c : Ctx K mg) (H : Hp) : SqT K H 22 [] := c.tup 7 rfl H
theorem tp_23 (c : Ctx K mg) (H : Hp) : SqT K H 23 [] := c.tup 8 rfl H
theorem tp_24 (c : Ctx K mg) (H : Hp) : SqT K H 24 [.int (51)] := c.tup 9 rfl H
theorem tp_25 (c : Ctx K mg) (H : Hp) : SqT K H 25 [] := c.tup 10 rfl H
theorem tp_26 (c : Ctx K mg) (H : Hp) : SqT K H 26 [] := c.tup 11 rfl H
theorem tp_27 (c : Ctx K mg) (H : Hp) : SqT K H 27 [] := c.tup 12 rfl H
theorem tp_28 (c : Ctx K mg) (H : Hp) : SqT K H 28 [] := c.tup 13 rfl H
theorem tp_29 (c : Ctx K mg) (H : Hp) : SqT K H 29 [] := c.tup 14 rfl H
theorem tp_30 (c : Ctx K mg) (H : Hp) : SqT K H 30 [.int (51)] := c.tup 15 rfl H
theorem tp_31 (c : Ctx K mg) (H : Hp) : SqT K H 31 [.int (5), .int (51)] := c.tup 16 rfl H
theorem tp_32 (c : Ctx K mg) (H : Hp) : SqT K H 32 [.int (63)] := c.tup 17 rfl H
theorem tp_33 (c : Ctx K mg) (H : Hp) : SqT K H 33 [.int (63), .int (5)] := c.tup 18 rfl H
theorem tp_34 (c : Ctx K mg) (H : Hp) : SqT K H 34 [.int (63), .int (5)] := c.tup 19 rfl H
theorem tp_35 (c : Ctx K mg) (H : Hp) : SqT K H 35 [.int (63), .int (5), .int (51)] := c.tup 20 rfl H
theorem tp_36 (c : Ctx K mg) (H : Hp) : SqT K H 36 [.int (63), .int (5), .int (51), .int (51)] := c.tup 21 rfl H
theorem tp_37 (c : Ctx K mg) (H : Hp) : SqT K H 37 [] := c.tup 22 rfl H
theorem tp_38 (c : Ctx K mg) (H : Hp) : SqT K H 38 [] := c.tup 23 rfl H
theorem tp_39 (c : Ctx K mg) (H : Hp) : SqT K H 39 [] := c.tup 24 rfl H
theorem tp_40 (c : Ctx K mg) (H : Hp) : SqT K H 40 [.int (19), .int (1000000000000000000)] := c.tup 25 rfl H
theorem tp_41 (c : Ctx K mg) (H : Hp) : SqT K H 41 [] := c.tup 26 rfl H
theorem tp_42 (c : Ctx K mg) (H : Hp) : SqT K H 42 [] := c.tup 27 rfl H
theorem tp_43 (c : Ctx K mg) (H : Hp) : SqT K H 43 [.int (5), .int (51)] := c.tup 28 rfl H
theorem tp_44 (c : Ctx K mg) (H : Hp) : SqT K H 44 [] := c.tup 29 rfl H
theorem tp_45 (c : Ctx K mg) (H : Hp) : SqT K H 45 [] := c.tup 30 rfl H
theorem tp_46 (c : Ctx K mg) (H : Hp) : SqT K H 46 [.ref 21, .ref 22, .ref 23, .ref 24, .ref 25, .ref 26, .ref 27, .ref 28, .ref 29, .ref 30, .ref 31, .ref 32, .ref 33, .ref 34, .ref 35, .ref 36, .ref 37, .ref 38, .ref 39, .ref 40, .ref 41, .ref 42, .ref 43, .ref 44, .ref 45] := c.tup 31 rfl H
theorem tp_47 (c : Ctx K mg) (H : Hp) : SqT K H 47 [.ref 15] := c.tup 32 rfl H
theorem tp_48 (c : Ctx K mg) (H : Hp) : SqT K H 48 [.ref 15] := c.tup 33 rfl H
theorem tp_49 (c : Ctx K mg) (H : Hp) : SqT K H 49 [] := c.tup 34 rfl H
theorem tp_50 (c : Ctx K mg) (H : Hp) : SqT K H 50 [] := c.tup 35 rfl H
theorem tp_51 (c : Ctx K mg) (H : Hp) : SqT K H 51 [.ref 16] := c.tup 36 rfl H
theorem tp_52 (c : Ctx K mg) (H : Hp) : SqT K H 52 [.ref 17] := c.tup 37 rfl H
theorem tp_53 (c : Ctx K mg) (H : Hp) : SqT K H 53 [] := c.tup 38 rfl H
theorem tp_54 (c : Ctx K mg) (H : Hp) : SqT K H 54 [.ref 18] := c.tup 39 rfl H
theorem tp_55 (c : Ctx K mg) (H : Hp) : SqT K H 55 [] := c.tup 40 rfl H
theorem tp_56 (c : Ctx K mg) (H : Hp) : SqT K H 56 [] := c.tup 41 rfl H
theorem tp_57 (c : Ctx K mg) (H : Hp) : SqT K H 57 [] := c.tup 42 rfl H
theorem tp_58 (c : Ctx K mg) (H : Hp) : SqT K H 58 [] := c.tup 43 rfl H
theorem tp_59 (c : Ctx K mg) (H : Hp) : SqT K H 59 [] := c.tup 44 rfl H
theorem tp_60 (c : Ctx K mg) (H : Hp) : SqT K H 60 [] := c.tup 45 rfl H
theorem tp_61 (c : Ctx K mg) (H : Hp) : SqT K H 61 [] := c.tup 46 rfl H
theorem tp_62 (c : Ctx K mg) (H : Hp) : SqT K H 62 [] := c.tup 47 rfl H
theorem tp_63 (c : Ctx K mg) (H : Hp) : SqT K H 63 [.ref 19, .ref 19] := c.tup 48 rfl H
theorem tp_64 (c : Ctx K mg) (H : Hp) : SqT K H 64 [.ref 19] := c.tup 49 rfl H
theorem tp_65 (c : Ctx K mg) (H : Hp) : SqT K H 65 [.ref 19] := c.tup 50 rfl H
theorem tp_66 (c : Ctx K mg) (H : Hp) : SqT K H 66 [] := c.tup 51 rfl H
theorem tp_67 (c : Ctx K mg) (H : Hp) : SqT K H 67 [.ref 20] := c.tup 52 rfl H
theorem tp_68 (c : Ctx K mg) (H : Hp) : SqT K H 68 [] := c.tup 53 rfl H
theorem tp_69 (c : Ctx K mg) (H : Hp) : SqT K H 69 [] := c.tup 54 rfl H
theorem tp_70 (c : Ctx K mg) (H : Hp) : SqT K H 70 [] := c.tup 55 rfl H
theorem tp_71 (c : Ctx K mg) (H : Hp) : SqT K H 71 [] := c.tup 56 rfl H
theorem tp_72 (c : Ctx K mg) (H : Hp) : SqT K H 72 [.ref 47, .ref 48, .ref 49, .ref 50, .ref 51, .ref 52, .ref 53, .ref 54, .ref 55, .ref 56, .ref 57, .ref 58, .ref 59, .ref 60, .ref 61, .ref 62, .ref 63, .ref 64, .ref 65, .ref 66, .ref 67, .ref 68, .ref 69, .ref 70, .ref 71] := c.tup 57 rfl H
theorem tp_142 (c : Ctx K mg) (H : Hp) : SqT K H 142 [.str "lays", .str "permits", .str "takes", .str "to", .str "all"] := c.tup 58 rfl H
theorem tp_217 (c : Ctx K mg) (H : Hp) : SqT K H 217 [.str "suit", .str "rank", .str "extra", .str "player"] := c.tup 59 rfl H
theorem tp_218 (c : Ctx K mg) (H : Hp) : SqT K H 218 [.int (6), .int (15), .int (4), .int (6)] := c.tup 60 rfl H
theorem tp_421 (c : Ctx K mg) (H : Hp) : SqT K H 421 [.str "lays", .str "permits", .str "takes"] := c.tup 61 rfl H
theorem tp_500 (c : Ctx K mg) (H : Hp) : SqT K H 500 [.int (1), .int (2), .int (4), .int (8), .int (16), .int (32)] := c.tup 62 rfl H
theorem tp_857 (c : Ctx K mg) (H : Hp) : SqT K H 857 [.ref 687, .ref 694, .ref 701, .ref 708, .ref 715, .ref 722, .ref 729, .ref 736, .ref 743, .ref 750, .ref 757, .ref 764, .ref 771, .ref 778] := c.tup 63 rfl H
theorem tp_858 (c : Ctx K mg) (H : Hp) : SqT K H 858 [.ref 785, .ref 792, .ref 797, .ref 804] := c.tup 64 rfl H
theorem f_need (c : Ctx K mg) : ∃ fd, Fun K "need" "need" s_need a_need fd := c.fn 0 (d := d_need) rfl
theorem f_read_call (c : Ctx K mg) : ∃ fd, Fun K "read_call" "read_call" s_read_call a_read_call fd := c.fn 1 (d := d_read_call) rfl
theorem f_need_list (c : Ctx K mg) : ∃ fd, Fun K "need_list" "need_list" s_need_list a_need_list fd := c.fn 2 (d := d_need_list) rfl
theorem f_need_ranges (c : Ctx K mg) : ∃ fd, Fun K "need_ranges" "need_ranges" s_need_ranges a_need_ranges fd := c.fn 3 (d := d_need_ranges) rfl
theorem f_bytes_of (c : Ctx K mg) : ∃ fd, Fun K "bytes_of" "bytes_of" s_bytes_of a_bytes_of fd := c.fn 4 (d := d_bytes_of) rfl
theorem f_lines_of (c : Ctx K mg) : ∃ fd, Fun K "lines_of" "lines_of" s_lines_of a_lines_of fd := c.fn 5 (d := d_lines_of) rfl
theorem f_token_end (c : Ctx K mg) : ∃ fd, Fun K "token_end" "token_end" s_token_end a_token_end fd := c.fn 6 (d := d_token_end) rfl
theorem f_tokens_of (c : Ctx K mg) : ∃ fd, Fun K "tokens_of" "tokens_of" s_tokens_of a_tokens_of fd := c.fn 7 (d := d_tokens_of) rfl
theorem f_words_of (c : Ctx K mg) : ∃ fd, Fun K "words_of" "words_of" s_words_of a_words_of fd := c.fn 8 (d := d_words_of) rfl
theorem f_is_digit (c : Ctx K mg) : ∃ fd, Fun K "is_digit" "is_digit" s_is_digit a_is_digit fd := c.fn 9 (d := d_is_digit) rfl
theorem f_is_letter (c : Ctx K mg) : ∃ fd, Fun K "is_letter" "is_letter" s_is_letter a_is_letter fd := c.fn 10 (d := d_is_letter) rfl
theorem f_is_reserved (c : Ctx K mg) : ∃ fd, Fun K "is_reserved" "is_reserved" s_is_reserved a_is_reserved fd := c.fn 11 (d := d_is_reserved) rfl
theorem f_is_name (c : Ctx K mg) : ∃ fd, Fun K "is_name" "is_name" s_is_name a_is_name fd := c.fn 12 (d := d_is_name) rfl
theorem f_is_number (c : Ctx K mg) : ∃ fd, Fun K "is_number" "is_number" s_is_number a_is_number fd := c.fn 13 (d := d_is_number) rfl
theorem f_value_of (c : Ctx K mg) : ∃ fd, Fun K "value_of" "value_of" s_value_of a_value_of fd := c.fn 14 (d := d_value_of) rfl
theorem f_line_of (c : Ctx K mg) : ∃ fd, Fun K "line_of" "line_of" s_line_of a_line_of fd := c.fn 15 (d := d_line_of) rfl
theorem f_kind_of (c : Ctx K mg) : ∃ fd, Fun K "kind_of" "kind_of" s_kind_of a_kind_of fd := c.fn 16 (d := d_kind_of) rfl
theorem f_used_names (c : Ctx K mg) : ∃ fd, Fun K "used_names" "used_names" s_used_names a_used_names fd := c.fn 17 (d := d_used_names) rfl
theorem f_second_of (c : Ctx K mg) : ∃ fd, Fun K "second_of" "second_of" s_second_of a_second_of fd := c.fn 18 (d := d_second_of) rfl
theorem f_need_no_third (c : Ctx K mg) : ∃ fd, Fun K "need_no_third" "need_no_third" s_need_no_third a_need_no_third fd := c.fn 19 (d := d_need_no_third) rfl
theorem f_read_name (c : Ctx K mg) : ∃ fd, Fun K "read_name" "read_name" s_read_name a_read_name fd := c.fn 20 (d := d_read_name) rfl
theorem f_read_copies (c : Ctx K mg) : ∃ fd, Fun K "read_copies" "read_copies" s_read_copies a_read_copies fd := c.fn 21 (d := d_read_copies) rfl
theorem f_read_line (c : Ctx K mg) : ∃ fd, Fun K "read_line" "read_line" s_read_line a_read_line fd := c.fn 22 (d := d_read_line) rfl
theorem f_read_table (c : Ctx K mg) : ∃ fd, Fun K "read_table" "read_table" s_read_table a_read_table fd := c.fn 23 (d := d_read_table) rfl
theorem f_name_lines (c : Ctx K mg) : ∃ fd, Fun K "name_lines" "name_lines" s_name_lines a_name_lines fd := c.fn 24 (d := d_name_lines) rfl
theorem f_text_of (c : Ctx K mg) : ∃ fd, Fun K "text_of" "text_of" s_text_of a_text_of fd := c.fn 25 (d := d_text_of) rfl
theorem f_is_extra (c : Ctx K mg) : ∃ fd, Fun K "is_extra" "is_extra" s_is_extra a_is_extra fd := c.fn 26 (d := d_is_extra) rfl
theorem f_parts_of (c : Ctx K mg) : ∃ fd, Fun K "parts_of" "parts_of" s_parts_of a_parts_of fd := c.fn 27 (d := d_parts_of) rfl
theorem f_card_words (c : Ctx K mg) : ∃ fd, Fun K "card_words" "card_words" s_card_words a_card_words fd := c.fn 28 (d := d_card_words) rfl
theorem f_card_text (c : Ctx K mg) : ∃ fd, Fun K "card_text" "card_text" s_card_text a_card_text fd := c.fn 29 (d := d_card_text) rfl
theorem f_place_among (c : Ctx K mg) : ∃ fd, Fun K "place_among" "place_among" s_place_among a_place_among fd := c.fn 30 (d := d_place_among) rfl
theorem f_copy_of (c : Ctx K mg) : ∃ fd, Fun K "copy_of" "copy_of" s_copy_of a_copy_of fd := c.fn 31 (d := d_copy_of) rfl
theorem f_card_of (c : Ctx K mg) : ∃ fd, Fun K "card_of" "card_of" s_card_of a_card_of fd := c.fn 32 (d := d_card_of) rfl
theorem f_player_of (c : Ctx K mg) : ∃ fd, Fun K "player_of" "player_of" s_player_of a_player_of fd := c.fn 33 (d := d_player_of) rfl
theorem f_receiver_of (c : Ctx K mg) : ∃ fd, Fun K "receiver_of" "receiver_of" s_receiver_of a_receiver_of fd := c.fn 34 (d := d_receiver_of) rfl
theorem f_position_of (c : Ctx K mg) : ∃ fd, Fun K "position_of" "position_of" s_position_of a_position_of fd := c.fn 35 (d := d_position_of) rfl
theorem f_read_permits (c : Ctx K mg) : ∃ fd, Fun K "read_permits" "read_permits" s_read_permits a_read_permits fd := c.fn 36 (d := d_read_permits) rfl
theorem f_read_action (c : Ctx K mg) : ∃ fd, Fun K "read_action" "read_action" s_read_action a_read_action fd := c.fn 37 (d := d_read_action) rfl
theorem f_action_of (c : Ctx K mg) : ∃ fd, Fun K "action_of" "action_of" s_action_of a_action_of fd := c.fn 38 (d := d_action_of) rfl
theorem f_log_of (c : Ctx K mg) : ∃ fd, Fun K "log_of" "log_of" s_log_of a_log_of fd := c.fn 39 (d := d_log_of) rfl
theorem f_receiver_word (c : Ctx K mg) : ∃ fd, Fun K "receiver_word" "receiver_word" s_receiver_word a_receiver_word fd := c.fn 40 (d := d_receiver_word) rfl
theorem f_action_line (c : Ctx K mg) : ∃ fd, Fun K "action_line" "action_line" s_action_line a_action_line fd := c.fn 41 (d := d_action_line) rfl
theorem f_trace_of (c : Ctx K mg) : ∃ fd, Fun K "trace_of" "trace_of" s_trace_of a_trace_of fd := c.fn 42 (d := d_trace_of) rfl
theorem f_deal_of (c : Ctx K mg) : ∃ fd, Fun K "deal_of" "deal_of" s_deal_of a_deal_of fd := c.fn 43 (d := d_deal_of) rfl
theorem f_missing_grants (c : Ctx K mg) : ∃ fd, Fun K "missing_grants" "missing_grants" s_missing_grants a_missing_grants fd := c.fn 44 (d := d_missing_grants) rfl
theorem f_can_see (c : Ctx K mg) : ∃ fd, Fun K "can_see" "can_see" s_can_see a_can_see fd := c.fn 45 (d := d_can_see) rfl
theorem f_members_of (c : Ctx K mg) : ∃ fd, Fun K "members_of" "members_of" s_members_of a_members_of fd := c.fn 46 (d := d_members_of) rfl
theorem f_is_seen (c : Ctx K mg) : ∃ fd, Fun K "is_seen" "is_seen" s_is_seen a_is_seen fd := c.fn 47 (d := d_is_seen) rfl
theorem f_seen_positions (c : Ctx K mg) : ∃ fd, Fun K "seen_positions" "seen_positions" s_seen_positions a_seen_positions fd := c.fn 48 (d := d_seen_positions) rfl
theorem f_place_in_trace (c : Ctx K mg) : ∃ fd, Fun K "place_in_trace" "place_in_trace" s_place_in_trace a_place_in_trace fd := c.fn 49 (d := d_place_in_trace) rfl
theorem f_known_entries (c : Ctx K mg) : ∃ fd, Fun K "known_entries" "known_entries" s_known_entries a_known_entries fd := c.fn 50 (d := d_known_entries) rfl
theorem f_card_below (c : Ctx K mg) : ∃ fd, Fun K "card_below" "card_below" s_card_below a_card_below fd := c.fn 51 (d := d_card_below) rfl
theorem f_possible_cards (c : Ctx K mg) : ∃ fd, Fun K "possible_cards" "possible_cards" s_possible_cards a_possible_cards fd := c.fn 52 (d := d_possible_cards) rfl
theorem f_open_count (c : Ctx K mg) : ∃ fd, Fun K "open_count" "open_count" s_open_count a_open_count fd := c.fn 53 (d := d_open_count) rfl
theorem f_probability_of (c : Ctx K mg) : ∃ fd, Fun K "probability_of" "probability_of" s_probability_of a_probability_of fd := c.fn 54 (d := d_probability_of) rfl
theorem f_first_invalid (c : Ctx K mg) : ∃ fd, Fun K "first_invalid" "first_invalid" s_first_invalid a_first_invalid fd := c.fn 55 (d := d_first_invalid) rfl
theorem f_is_consistent (c : Ctx K mg) : ∃ fd, Fun K "is_consistent" "is_consistent" s_is_consistent a_is_consistent fd := c.fn 56 (d := d_is_consistent) rfl
theorem f_counted (c : Ctx K mg) : ∃ fd, Fun K "counted" "counted" s_counted a_counted fd := c.fn 57 (d := d_counted) rfl
theorem f_need_card (c : Ctx K mg) : ∃ fd, Fun K "need_card" "need_card" s_need_card a_need_card fd := c.fn 58 (d := d_need_card) rfl
theorem f_need_player (c : Ctx K mg) : ∃ fd, Fun K "need_player" "need_player" s_need_player a_need_player fd := c.fn 59 (d := d_need_player) rfl
theorem f_need_coalition (c : Ctx K mg) : ∃ fd, Fun K "need_coalition" "need_coalition" s_need_coalition a_need_coalition fd := c.fn 60 (d := d_need_coalition) rfl
theorem f_need_all (c : Ctx K mg) : ∃ fd, Fun K "need_all" "need_all" s_need_all a_need_all fd := c.fn 61 (d := d_need_all) rfl
theorem f_print_table (c : Ctx K mg) : ∃ fd, Fun K "print_table" "print_table" s_print_table a_print_table fd := c.fn 62 (d := d_print_table) rfl
theorem f_card_info (c : Ctx K mg) : ∃ fd, Fun K "card_info" "card_info" s_card_info a_card_info fd := c.fn 63 (d := d_card_info) rfl
theorem f_find_card (c : Ctx K mg) : ∃ fd, Fun K "find_card" "find_card" s_find_card a_find_card fd := c.fn 64 (d := d_find_card) rfl
theorem f_perform (c : Ctx K mg) : ∃ fd, Fun K "perform" "perform" s_perform a_perform fd := c.fn 65 (d := d_perform) rfl
theorem f_print_log (c : Ctx K mg) : ∃ fd, Fun K "print_log" "print_log" s_print_log a_print_log fd := c.fn 66 (d := d_print_log) rfl
theorem f_validate_log (c : Ctx K mg) : ∃ fd, Fun K "validate_log" "validate_log" s_validate_log a_validate_log fd := c.fn 67 (d := d_validate_log) rfl
theorem f_deal (c : Ctx K mg) : ∃ fd, Fun K "deal" "deal" s_deal a_deal fd := c.fn 68 (d := d_deal) rfl
theorem f_trace (c : Ctx K mg) : ∃ fd, Fun K "trace" "trace" s_trace a_trace fd := c.fn 69 (d := d_trace) rfl
theorem f_tell_can_see (c : Ctx K mg) : ∃ fd, Fun K "tell_can_see" "tell_can_see" s_tell_can_see a_tell_can_see fd := c.fn 70 (d := d_tell_can_see) rfl
theorem f_positions_seen (c : Ctx K mg) : ∃ fd, Fun K "positions_seen" "positions_seen" s_positions_seen a_positions_seen fd := c.fn 71 (d := d_positions_seen) rfl
theorem f_tell_known_entries (c : Ctx K mg) : ∃ fd, Fun K "tell_known_entries" "tell_known_entries" s_tell_known_entries a_tell_known_entries fd := c.fn 72 (d := d_tell_known_entries) rfl
theorem f_open_entry_count (c : Ctx K mg) : ∃ fd, Fun K "open_entry_count" "open_entry_count" s_open_entry_count a_open_entry_count fd := c.fn 73 (d := d_open_entry_count) rfl
theorem f_tell_possible_cards (c : Ctx K mg) : ∃ fd, Fun K "tell_possible_cards" "tell_possible_cards" s_tell_possible_cards a_tell_possible_cards fd := c.fn 74 (d := d_tell_possible_cards) rfl
theorem f_card_probability (c : Ctx K mg) : ∃ fd, Fun K "card_probability" "card_probability" s_card_probability a_card_probability fd := c.fn 75 (d := d_card_probability) rfl
theorem f_tell_owners (c : Ctx K mg) : ∃ fd, Fun K "tell_owners" "tell_owners" s_tell_owners a_tell_owners fd := c.fn 76 (d := d_tell_owners) rfl
theorem f_tell_missing_grants (c : Ctx K mg) : ∃ fd, Fun K "tell_missing_grants" "tell_missing_grants" s_tell_missing_grants a_tell_missing_grants fd := c.fn 77 (d := d_tell_missing_grants) rfl
theorem f_summary (c : Ctx K mg) : ∃ fd, Fun K "summary" "summary" s_summary a_summary fd := c.fn 78 (d := d_summary) rfl
theorem f_verify_log (c : Ctx K mg) : ∃ fd, Fun K "verify_log" "verify_log" s_verify_log a_verify_log fd := c.fn 79 (d := d_verify_log) rfl
theorem f_is_permutation (c : Ctx K mg) : ∃ fd, Fun K "is_permutation" "is_permutation" s_is_permutation a_is_permutation fd := c.fn 80 (d := d_is_permutation) rfl
theorem f_composed (c : Ctx K mg) : ∃ fd, Fun K "composed" "composed" s_composed a_composed fd := c.fn 81 (d := d_composed) rfl
theorem f_inverse_of (c : Ctx K mg) : ∃ fd, Fun K "inverse_of" "inverse_of" s_inverse_of a_inverse_of fd := c.fn 82 (d := d_inverse_of) rfl
theorem f_cycle_from (c : Ctx K mg) : ∃ fd, Fun K "cycle_from" "cycle_from" s_cycle_from a_cycle_from fd := c.fn 83 (d := d_cycle_from) rfl
theorem f_cycles_of (c : Ctx K mg) : ∃ fd, Fun K "cycles_of" "cycles_of" s_cycles_of a_cycles_of fd := c.fn 84 (d := d_cycles_of) rfl
theorem f_factorial_of (c : Ctx K mg) : ∃ fd, Fun K "factorial_of" "factorial_of" s_factorial_of a_factorial_of fd := c.fn 85 (d := d_factorial_of) rfl
theorem f_permutation_at (c : Ctx K mg) : ∃ fd, Fun K "permutation_at" "permutation_at" s_permutation_at a_permutation_at fd := c.fn 86 (d := d_permutation_at) rfl
theorem f_number_of (c : Ctx K mg) : ∃ fd, Fun K "number_of" "number_of" s_number_of a_number_of fd := c.fn 87 (d := d_number_of) rfl
theorem f_need_permutation (c : Ctx K mg) : ∃ fd, Fun K "need_permutation" "need_permutation" s_need_permutation a_need_permutation fd := c.fn 88 (d := d_need_permutation) rfl
theorem f_compose (c : Ctx K mg) : ∃ fd, Fun K "compose" "compose" s_compose a_compose fd := c.fn 89 (d := d_compose) rfl
theorem f_inverse (c : Ctx K mg) : ∃ fd, Fun K "inverse" "inverse" s_inverse a_inverse fd := c.fn 90 (d := d_inverse) rfl
theorem f_cycles (c : Ctx K mg) : ∃ fd, Fun K "cycles" "cycles" s_cycles a_cycles fd := c.fn 91 (d := d_cycles) rfl
theorem f_unrank (c : Ctx K mg) : ∃ fd, Fun K "unrank" "unrank" s_unrank a_unrank fd := c.fn 92 (d := d_unrank) rfl
theorem f_rank (c : Ctx K mg) : ∃ fd, Fun K "rank" "rank" s_rank a_rank fd := c.fn 93 (d := d_rank) rfl
theorem f_fields_of_orders (c : Ctx K mg) : ∃ fd, Fun K "fields_of_orders" "fields_of_orders" s_fields_of_orders a_fields_of_orders fd := c.fn 94 (d := d_fields_of_orders) rfl
theorem f_check_table (c : Ctx K mg) : ∃ fd, Fun K "check_table" "check_table" s_check_table a_check_table fd := c.fn 95 (d := d_check_table) rfl
theorem f_answer_of (c : Ctx K mg) : ∃ fd, Fun K "answer_of" "answer_of" s_answer_of a_answer_of fd := c.fn 96 (d := d_answer_of) rfl
theorem f_answers (c : Ctx K mg) : ∃ fd, Fun K "answers" "answers" s_answers a_answers fd := c.fn 97 (d := d_answers) rfl
theorem f_Refused_init (c : Ctx K mg) : ∃ fd, Fun K "__init__" "Refused.__init__" s_Refused_init a_Refused_init fd := c.fn 98 (d := d_Refused_init) rfl
theorem f_Call_init (c : Ctx K mg) : ∃ fd, Fun K "__init__" "Call.__init__" s_Call_init a_Call_init fd := c.fn 99 (d := d_Call_init) rfl
theorem f_TableFault_init (c : Ctx K mg) : ∃ fd, Fun K "__init__" "TableFault.__init__" s_TableFault_init a_TableFault_init fd := c.fn 100 (d := d_TableFault_init) rfl
theorem f_Table_init (c : Ctx K mg) : ∃ fd, Fun K "__init__" "Table.__init__" s_Table_init a_Table_init fd := c.fn 101 (d := d_Table_init) rfl
theorem f_Table_declare (c : Ctx K mg) : ∃ fd, Fun K "declare" "Table.declare" s_Table_declare a_Table_declare fd := c.fn 102 (d := d_Table_declare) rfl
theorem f_Table_many (c : Ctx K mg) : ∃ fd, Fun K "many" "Table.many" s_Table_many a_Table_many fd := c.fn 103 (d := d_Table_many) rfl
theorem f_Table_grid_size (c : Ctx K mg) : ∃ fd, Fun K "grid_size" "Table.grid_size" s_Table_grid_size a_Table_grid_size fd := c.fn 104 (d := d_Table_grid_size) rfl
theorem f_Table_first_extra (c : Ctx K mg) : ∃ fd, Fun K "first_extra" "Table.first_extra" s_Table_first_extra a_Table_first_extra fd := c.fn 105 (d := d_Table_first_extra) rfl
theorem f_Table_card_count (c : Ctx K mg) : ∃ fd, Fun K "card_count" "Table.card_count" s_Table_card_count a_Table_card_count fd := c.fn 106 (d := d_Table_card_count) rfl
theorem f_Table_player_count (c : Ctx K mg) : ∃ fd, Fun K "player_count" "Table.player_count" s_Table_player_count a_Table_player_count fd := c.fn 107 (d := d_Table_player_count) rfl
theorem f_Action_init (c : Ctx K mg) : ∃ fd, Fun K "__init__" "Action.__init__" s_Action_init a_Action_init fd := c.fn 108 (d := d_Action_init) rfl
theorem f_Play_init (c : Ctx K mg) : ∃ fd, Fun K "__init__" "Play.__init__" s_Play_init a_Play_init fd := c.fn 109 (d := d_Play_init) rfl
theorem f_Play_all_laid (c : Ctx K mg) : ∃ fd, Fun K "all_laid" "Play.all_laid" s_Play_all_laid a_Play_all_laid fd := c.fn 110 (d := d_Play_all_laid) rfl
theorem f_Play_has_granted (c : Ctx K mg) : ∃ fd, Fun K "has_granted" "Play.has_granted" s_Play_has_granted a_Play_has_granted fd := c.fn 111 (d := d_Play_has_granted) rfl
theorem f_Play_reason_to_lay (c : Ctx K mg) : ∃ fd, Fun K "reason_to_lay" "Play.reason_to_lay" s_Play_reason_to_lay a_Play_reason_to_lay fd := c.fn 112 (d := d_Play_reason_to_lay) rfl
theorem f_Play_reason_against (c : Ctx K mg) : ∃ fd, Fun K "reason_against" "Play.reason_against" s_Play_reason_against a_Play_reason_against fd := c.fn 113 (d := d_Play_reason_against) rfl
theorem f_Play_perform (c : Ctx K mg) : ∃ fd, Fun K "perform" "Play.perform" s_Play_perform a_Play_perform fd := c.fn 114 (d := d_Play_perform) rfl
theorem f_Desk_init (c : Ctx K mg) : ∃ fd, Fun K "__init__" "Desk.__init__" s_Desk_init a_Desk_init fd := c.fn 115 (d := d_Desk_init) rfl
theorem f_Desk_load_table (c : Ctx K mg) : ∃ fd, Fun K "load_table" "Desk.load_table" s_Desk_load_table a_Desk_load_table fd := c.fn 116 (d := d_Desk_load_table) rfl
theorem f_Desk_at_table (c : Ctx K mg) : ∃ fd, Fun K "at_table" "Desk.at_table" s_Desk_at_table a_Desk_at_table fd := c.fn 117 (d := d_Desk_at_table) rfl
theorem f_Desk_fields (c : Ctx K mg) : ∃ fd, Fun K "fields" "Desk.fields" s_Desk_fields a_Desk_fields fd := c.fn 118 (d := d_Desk_fields) rfl
theorem cs_Call (c : Ctx K mg) : clsB K 116 113 ["operation", "numbers", "rows"] [] = true := c.cls 0 rfl
theorem cl_Call (c : Ctx K mg) : Cls K c_Call := (clsB_ok (cs_Call c)).cl
theorem mk_Call (c : Ctx K mg) : Mk K c_Call a_Call_init := (clsB_ok (cs_Call c)).mkr
theorem na_Call_operation (c : Ctx K mg) : NoAttr K c_Call "operation" := (clsB_ok (cs_Call c)).no "operation" (by decide)
theorem na_Call_numbers (c : Ctx K mg) : NoAttr K c_Call "numbers" := (clsB_ok (cs_Call c)).no "numbers" (by decide)
theorem na_Call_rows (c : Ctx K mg) : NoAttr K c_Call "rows" := (clsB_ok (cs_Call c)).no "rows" (by decide)
theorem cs_Table (c : Ctx K mg) : clsB K 297 252 ["names", "copies"] [("declare", 259), ("many", 266), ("grid_size", 273), ("first_extra", 280), ("card_count", 287), ("player_count", 294)] = true := c.cls 1 rfl
theorem cl_Table (c : Ctx K mg) : Cls K c_Table := (clsB_ok (cs_Table c)).cl
theorem mk_Table (c : Ctx K mg) : Mk K c_Table a_Table_init := (clsB_ok (cs_Table c)).mkr
theorem na_Table_names (c : Ctx K mg) : NoAttr K c_Table "names" := (clsB_ok (cs_Table c)).no "names" (by decide)
theorem na_Table_copies (c : Ctx K mg) : NoAttr K c_Table "copies" := (clsB_ok (cs_Table c)).no "copies" (by decide)
theorem me_Table_declare (c : Ctx K mg) : Meth K c_Table "declare" a_Table_declare := (clsB_ok (cs_Table c)).me ("declare", 259) (by decide) (c.kp a_Table_declare (f_Table_declare c))
theorem me_Table_many (c : Ctx K mg) : Meth K c_Table "many" a_Table_many := (clsB_ok (cs_Table c)).me ("many", 266) (by decide) (c.kp a_Table_many (f_Table_many c))
theorem me_Table_grid_size (c : Ctx K mg) : Meth K c_Table "grid_size" a_Table_grid_size := (clsB_ok (cs_Table c)).me ("grid_size", 273) (by decide) (c.kp a_Table_grid_size (f_Table_grid_size c))
theorem me_Table_first_extra (c : Ctx K mg) : Meth K c_Table "first_extra" a_Table_first_extra := (clsB_ok (cs_Table c)).me ("first_extra", 280) (by decide) (c.kp a_Table_first_extra (f_Table_first_extra c))
theorem me_Table_card_count (c : Ctx K mg) : Meth K c_Table "card_count" a_Table_card_count := (clsB_ok (cs_Table c)).me ("card_count", 287) (by decide) (c.kp a_Table_card_count (f_Table_card_count c))
theorem me_Table_player_count (c : Ctx K mg) : Meth K c_Table "player_count" a_Table_player_count := (clsB_ok (cs_Table c)).me ("player_count", 294) (by decide) (c.kp a_Table_player_count (f_Table_player_count c))
theorem cs_Action (c : Ctx K mg) : clsB K 438 435 ["deed", "player", "numbers"] [] = true := c.cls 2 rfl
theorem cl_Action (c : Ctx K mg) : Cls K c_Action := (clsB_ok (cs_Action c)).cl
theorem mk_Action (c : Ctx K mg) : Mk K c_Action a_Action_init := (clsB_ok (cs_Action c)).mkr
theorem na_Action_deed (c : Ctx K mg) : NoAttr K c_Action "deed" := (clsB_ok (cs_Action c)).no "deed" (by decide)
theorem na_Action_player (c : Ctx K mg) : NoAttr K c_Action "player" := (clsB_ok (cs_Action c)).no "player" (by decide)
theorem na_Action_numbers (c : Ctx K mg) : NoAttr K c_Action "numbers" := (clsB_ok (cs_Action c)).no "numbers" (by decide)
theorem cs_Play (c : Ctx K mg) : clsB K 627 591 ["table", "layers", "grants", "owners", "actions"] [("all_laid", 596), ("has_granted", 603), ("reason_to_lay", 610), ("reason_against", 617), ("perform", 624)] = true := c.cls 3 rfl
theorem cl_Play (c : Ctx K mg) : Cls K c_Play := (clsB_ok (cs_Play c)).cl
theorem mk_Play (c : Ctx K mg) : Mk K c_Play a_Play_init := (clsB_ok (cs_Play c)).mkr
theorem na_Play_table (c : Ctx K mg) : NoAttr K c_Play "table" := (clsB_ok (cs_Play c)).no "table" (by decide)
theorem na_Play_layers (c : Ctx K mg) : NoAttr K c_Play "layers" := (clsB_ok (cs_Play c)).no "layers" (by decide)
theorem na_Play_grants (c : Ctx K mg) : NoAttr K c_Play "grants" := (clsB_ok (cs_Play c)).no "grants" (by decide)
theorem na_Play_owners (c : Ctx K mg) : NoAttr K c_Play "owners" := (clsB_ok (cs_Play c)).no "owners" (by decide)
theorem na_Play_actions (c : Ctx K mg) : NoAttr K c_Play "actions" := (clsB_ok (cs_Play c)).no "actions" (by decide)
theorem me_Play_all_laid (c : Ctx K mg) : Meth K c_Play "all_laid" a_Play_all_laid := (clsB_ok (cs_Play c)).me ("all_laid", 596) (by decide) (c.kp a_Play_all_laid (f_Play_all_laid c))
theorem me_Play_has_granted (c : Ctx K mg) : Meth K c_Play "has_granted" a_Play_has_granted := (clsB_ok (cs_Play c)).me ("has_granted", 603) (by decide) (c.kp a_Play_has_granted (f_Play_has_granted c))
theorem me_Play_reason_to_lay (c : Ctx K mg) : Meth K c_Play "reason_to_lay" a_Play_reason_to_lay := (clsB_ok (cs_Play c)).me ("reason_to_lay", 610) (by decide) (c.kp a_Play_reason_to_lay (f_Play_reason_to_lay c))
theorem me_Play_reason_against (c : Ctx K mg) : Meth K c_Play "reason_against" a_Play_reason_against := (clsB_ok (cs_Play c)).me ("reason_against", 617) (by decide) (c.kp a_Play_reason_against (f_Play_reason_against c))
theorem me_Play_perform (c : Ctx K mg) : Meth K c_Play "perform" a_Play_perform := (clsB_ok (cs_Play c)).me ("perform", 624) (by decide) (c.kp a_Play_perform (f_Play_perform c))
theorem cs_Desk (c : Ctx K mg) : clsB K 952 928 ["play"] [("load_table", 935), ("at_table", 942), ("fields", 949)] = true := c.cls 4 rfl
theorem cl_Desk (c : Ctx K mg) : Cls K c_Desk := (clsB_ok (cs_Desk c)).cl
theorem mk_Desk (c : Ctx K mg) : Mk K c_Desk a_Desk_init := (clsB_ok (cs_Desk c)).mkr
theorem na_Desk_play (c : Ctx K mg) : NoAttr K c_Desk "play" := (clsB_ok (cs_Desk c)).no "play" (by decide)
theorem me_Desk_load_table (c : Ctx K mg) : Meth K c_Desk "load_table" a_Desk_load_table := (clsB_ok (cs_Desk c)).me ("load_table", 935) (by decide) (c.kp a_Desk_load_table (f_Desk_load_table c))
theorem me_Desk_at_table (c : Ctx K mg) : Meth K c_Desk "at_table" a_Desk_at_table := (clsB_ok (cs_Desk c)).me ("at_table", 942) (by decide) (c.kp a_Desk_at_table (f_Desk_at_table c))
theorem me_Desk_fields (c : Ctx K mg) : Meth K c_Desk "fields" a_Desk_fields := (clsB_ok (cs_Desk c)).me ("fields", 949) (by decide) (c.kp a_Desk_fields (f_Desk_fields c))
end
end VD
namespace VD
open PySem PySem.Spec PyProof.Rows L2
/-! ### the text by places; what the top leaves of it -/

section
open PySem.W PySem.Calls
/-- the state behind the top, by the kernel -/
noncomputable abbrev endV (w : World) (os : OsState) : Option SharedT := HandSHeadRun.endF (HandSHeadRun.stepQ (HandSHeadRun.denQ HandSHeadRun.tabQ) PR w) 20000 PR w os
set_option maxHeartbeats 0 in
theorem run_look (w : World) (os : OsState) : (endV w os).map (fun s => HandSHeadRun.looksF PR (boot_heap w.params) s.abs) = some true := by
  kernel_rfl
set_option maxHeartbeats 0 in
theorem run_seen (w : World) (os : OsState) : (endV w os).map (fun s => HandSHeadRun.seenQ qv namesV (importedModules PR.main.body) (fun s => xlAt qv [] s && recOk [] s) s.abs) = some (openGood qv namesV) := by
  kernel_rfl
set_option maxHeartbeats 0 in
theorem run_fact (w : World) (os : OsState) : (endV w os).map obV = some valV := by
  kernel_rfl
end
section
open PySem.W PySem.Calls
theorem leftV : LeftO PR qv namesV (fun s => xlAt qv [] s && recOk [] s) hookV.obs hookV.val 20600 true := by
  refine HandSHeadRun.left_one (M := 20000) (by kernel_rfl) (by decide) (fun s => by kernel_rfl) (by decide) fun w os => ?_
  rw [HandSHeadRun.endQ_eq]
  obtain ⟨s, e, h1⟩ := Option.map_eq_some_iff.mp (run_look w os)
  obtain ⟨s2, e2, h2⟩ := Option.map_eq_some_iff.mp (run_seen w os)
  obtain ⟨s3, e3, h3⟩ := Option.map_eq_some_iff.mp (run_fact w os)
  have q2 : s2 = s := Option.some.inj (e2.symm.trans e)
  have q3 : s3 = s := Option.some.inj (e3.symm.trans e)
  subst q2 q3
  refine Option.map_eq_some_iff.mpr ⟨_, e, ?_⟩
  rw [HandSHeadRun.seenQ_eq, h2]
  show (_, _, hookV.obs s3.abs) = _
  rw [← obV_eq, h3, h1] <;> rfl
end
end VD
namespace VD
open PySem PySem.Spec PyProof.Rows L2
section
open PySem.W
abbrev rV : PySem.W.OpenSpec := PySem.Challenge.rw_veildeck_s01_answers
theorem said1 : PySem.W.sreFenced rV.prog.main = true := by decide +kernel
theorem said2 : ((moduleNames rV.prog.main.body).isEmpty || lookedIntoSs (moduleNames rV.prog.main.body) rV.prog.main.body) = true := by decide +kernel
theorem said3 : PySem.W.namesResolve rV.prog = true := by decide +kernel
theorem said4 : rV.prog.boundNames.all (fun n => !PySem.W.worldNames.contains n) = true := by decide +kernel
theorem said5 : PySem.W.noRoadLSs { strict := !(importedModules rV.prog.main.body).all PySem.W.cThrough.contains, foot := none, bare := (["vars", "dir", "locals"] : List Str).filter (PySem.W.readsOut rV.prog rV.prog.main.body) } rV.prog.main.body = true := by decide +kernel
theorem said6 : PySem.W.namesMeet rV.prog rV.prog.main.body (fun _ n => PySem.W.attrL n) = true := by decide +kernel
theorem said7 : rV.prog.boundNames.contains rV.name = true := by decide +kernel
theorem said8 : (!startupNames.contains rV.name) = true := by decide +kernel
theorem said9 : PySem.W.specDef rV.prog rV.name rV.args.length = true := by decide +kernel
theorem said10 : rV.args.all PySem.W.Codec.fits = true := by decide +kernel
theorem said11 : rV.ret.ok = true := by decide +kernel
theorem abV {a b : Bool} (h1 : a = true) (h2 : b = true) : (a && b) = true := by rw [h1, h2]; rfl
theorem said0 : PySem.W.looksOpen rV.prog = true := by
  unfold PySem.W.looksOpen
  exact abV (abV (abV (abV (abV said1 said2) said3) said4) said5) said6
theorem said : PySem.Challenge.rw_veildeck_s01_answers.wellSaid = true := by
  unfold PySem.W.OpenSpec.wellSaid
  exact abV (abV (abV (abV (abV said0 said7) said8) said9) said10) said11
end
end VD
namespace VD
open PySem PySem.Spec PyProof.Rows L2
theorem view_ok : (PySem.W.chainsOk qv && PySem.W.opensWell PySem.Challenge.rw_veildeck_s01_answers.prog) = true := by decide +kernel
theorem bare_ok : PySem.Challenge.rw_veildeck_s01_answers.prog.bare := ⟨rfl, rfl, rfl, rfl, rfl, by decide +kernel⟩
theorem one_ok : ∃ args, PySem.Challenge.rw_veildeck_s01_answers.pre args = true ∧ PySem.W.WData.layableAll args = true := ⟨[.list [.int 2]], by decide +kernel, by decide +kernel⟩
end VD
namespace VD
open PySem PySem.Spec PyProof.Rows L2
/-! ### short words: a def by its promise, wherever it stands -/
/-- a module's def that keeps a promise -/
structure OkF (P : Program) (w : World) (K : PySem.W.Frag) (mg : Str → Option Value) (base : Heap) (CX : CXT) (k : Nat) (x : Str) (ps : List Str) (sp : Sp) : Prop where
  ex : ∃ f fd, mg x = some (.ref f) ∧ PySem.W.keepIn K (.ref f) = true ∧ Binds K fd ps [] ∧ FnOk P w K mg base CX k f fd ps sp
/-- a class's method -/
structure OkM (P : Program) (w : World) (K : PySem.W.Frag) (mg : Str → Option Value) (base : Heap) (CX : CXT) (k : Nat) (C : Addr) (m : Str) (ps : List Str) (sp : Sp) : Prop where
  ex : ∃ f fd, Meth K C m f ∧ Cls K C ∧ Binds K fd ps [] ∧ FnOk P w K mg base CX k f fd ps sp
/-- a class and its __init__ -/
structure OkC (P : Program) (w : World) (K : PySem.W.Frag) (mg : Str → Option Value) (base : Heap) (CX : CXT) (k : Nat) (x : Str) (C : Addr) (ps : List Str) (sp : Sp) : Prop where
  ex : ∃ f fd, Mk K C f ∧ mg x = some (.ref C) ∧ Binds K fd ps [] ∧ FnOk P w K mg base CX k f fd ps sp
/-- a def of ints for an int: the readings of calls -/
def tF (sp : Sp) (E : XK) (t : TA) : TE := fun σ H Q => t σ H fun vs H1 => sp vs H1 Q E
def tM (C : Addr) (m : Str) (sp : Sp) (E : XK) (ta : TE) (t : TA) : TE := fun σ H Q => ta σ H fun x H1 => ∃ a dx fs, x = .ref a ∧ H1 a = some (.ins C dx fs) ∧ fs.lookup m = none ∧ t σ H1 fun vs H2 => sp (x :: vs) H2 Q E
def tN (C : Addr) (sp : Sp) (E : XK) (t : TA) : TE := fun σ H Q => t σ H fun vs H1 => ∀ x dx, H1 x = none → H1 dx = none → dx ≠ x →
  sp (.ref x :: vs) (upd (upd H1 dx (.own x)) x (.ins C dx [])) (fun v H2 => v = .non ∧ Q (.ref x) H2) E
theorem tCall_nil (sp : Sp) (E : XK) (t : TA) : tCall sp [] E t = tF sp E t := by
  funext σ H Q
  unfold tCall tF
  congr 1
  funext vs H1
  rw [List.append_nil]
theorem tMeth_nil (C : Addr) (m : Str) (sp : Sp) (E : XK) (ta : TE) (t : TA) : tMeth C m sp [] E ta t = tM C m sp E ta t := by
  funext σ H Q
  unfold tMeth tM
  congr 1
  funext x H1
  simp only [List.append_nil]
theorem tMake_nil (C : Addr) (sp : Sp) (E : XK) (t : TA) : tMake C sp [] E t = tN C sp E t := by
  funext σ H Q
  unfold tMake tN
  simp only [List.append_nil]
section
variable {X : Cx} {CX : CXT} {k : Nat} {C : Addr} {x m : Str} {ps : List Str} {sp : Sp} {E : XK} {p pos apos : Pos} {e o : Expr} {es : List Expr} {ta : TE} {t : TA}
theorem pcall (O : OkF X.prog X.w X.K X.mg X.base CX k x ps sp) (hr : Room k X.A) (hx : Passes CX X E) (ha : PA X (e :: es) t) (hg : Gl X x := by rfl) (hdb : (x == ("__debug__" : Str)) = false := by decide)
    (he : starEach (e :: es) X.env = (false, eval e X.env) :: starEach es X.env := by rfl) (hpl : (backTo pos (starEach es X.env)).any (·.1) = false := by rfl) :
    PE X (.Call (.Name x p) (e :: es) [] pos) (tF sp E t) := by
  obtain ⟨f, fd, h1, h2, h3, F⟩ := O.ex
  rw [← tCall_nil]
  exact pe_call F hr hg h1 h2 h3 .nil hx ha hdb he hpl
theorem pmeth (O : OkM X.prog X.w X.K X.mg X.base CX k C m ps sp) (he : PE X o ta) (hr : Room k X.A) (hx : Passes CX X E) (ha : PA X (e :: es) t) {pl : Sem Bool}
    (hst : starEach (e :: es) X.env = (false, eval e X.env) :: starEach es X.env := by rfl) (hpl : (backTo pos (starEach es X.env)).any (·.1) = false := by rfl)
    (ht : eval (.Call (.Attribute o m apos) (e :: es) [] pos) X.env = (do
      let ov ← eval o X.env
      standAt apos.atName
      let (f, first) ← holding [ov] (getMethod ov m pl)
      callWith pos f first (backTo pos (starEach (e :: es) X.env)) (backToKw pos (keywordEach [] X.env))) := by rfl) :
    PE X (.Call (.Attribute o m apos) (e :: es) [] pos) (tM C m sp E ta t) := by
  obtain ⟨f, fd, h1, h2, h3, F⟩ := O.ex
  rw [← tMeth_nil]
  exact pe_meth he h2 h1 F hr h3 .nil hx ha hst hpl ht
theorem pmeth0 (O : OkM X.prog X.w X.K X.mg X.base CX k C m ps sp) (he : PE X o ta) (hr : Room k X.A) (hx : Passes CX X E) {pl : Sem Bool}
    (ht : eval (.Call (.Attribute o m apos) [] [] pos) X.env = (do
      let ov ← eval o X.env
      standAt apos.atName
      let (f, first) ← holding [ov] (getMethod ov m pl)
      callWith pos f first (backTo pos (starEach [] X.env)) (backToKw pos (keywordEach [] X.env))) := by rfl) :
    PE X (.Call (.Attribute o m apos) [] [] pos) (tM C m sp E ta tNil) := by
  obtain ⟨f, fd, h1, h2, h3, F⟩ := O.ex
  rw [← tMeth_nil]
  exact pe_meth0 he h2 h1 F hr h3 .nil hx ht
theorem pmake (O : OkC X.prog X.w X.K X.mg X.base CX k x C ps sp) (hr : Room (k + 1) X.A) (hx : Passes CX X E) (ha : PA X (e :: es) t) (hg : Gl X x := by rfl) (hdb : (x == ("__debug__" : Str)) = false := by decide)
    (he : starEach (e :: es) X.env = (false, eval e X.env) :: starEach es X.env := by rfl) (hpl : (backTo pos (starEach es X.env)).any (·.1) = false := by rfl) :
    PE X (.Call (.Name x p) (e :: es) [] pos) (tN C sp E t) := by
  obtain ⟨f, fd, h1, h2, h3, F⟩ := O.ex
  rw [← tMake_nil]
  exact pe_make h1 F hr hg h2 h3 .nil hx ha hdb he hpl
theorem pmake0 (O : OkC X.prog X.w X.K X.mg X.base CX k x C ps sp) (hr : Room (k + 1) X.A) (hx : Passes CX X E) (hg : Gl X x := by rfl) (hdb : (x == ("__debug__" : Str)) = false := by decide) :
    PE X (.Call (.Name x p) [] [] pos) (tN C sp E tNil) := by
  obtain ⟨f, fd, h1, h2, h3, F⟩ := O.ex
  rw [← tMake_nil]
  exact pe_make0 h1 F hr hg h2 h3 .nil hx hdb
/-- a constant of the module -/
theorem pgi {z : Int} (h : ∃ t, X.mg x = some (.int z t)) (hg : Gl X x := by rfl) (hd : (x == ("__debug__" : Str)) = false := by decide) : PE X (.Name x p) (tC (.int z)) := by
  obtain ⟨t, h⟩ := h
  exact pe_glob hg h ⟨t, rfl⟩ hd
theorem pgr {a : Addr} (h : X.mg x = some (.ref a)) (hg : Gl X x := by rfl) (hd : (x == ("__debug__" : Str)) = false := by decide) : PE X (.Name x p) (tC (.ref a)) := pe_glob hg h rfl hd
end
/-! ### a def's body -/
section
variable {P : Program} {w : World} {K : PySem.W.Frag} {mg : Str → Option Value} {base : Heap} {N ps : List Str} {k : Nat} {x q : Str} {st : Stmt} {f C : Addr} {sp : Sp}
/-- what is shown of a def's body: its reading, by the rules, and that the promise gives it -/
def Body (P : Program) (w : World) (K : PySem.W.Frag) (mg : Str → Option Value) (base : Heap) (N : List Str) (q : Str) (st : Stmt) (f : Addr) (k : Nat) (sp : Sp) : Prop :=
  ∀ (cdv : Value) (A : Around) (outer : List Env) (s : Shared) (H : Hp) (vs : List V) (Q : VK) (E : XK), Room k (A.deeper (envOfC q (defScope st) s.heap.objs.size f cdv)) → sp vs H Q E →
    ∃ t, PSs (cxOf (L2.CX P w) P w K mg base N q (defScope st) f cdv A outer s H E) (defBody st) t ∧ t { nx := fun _ H' => Q .non H', rt := Q } (start N vs) H
/-- a promise tells how many arguments there are -/
def Len (n : Nat) (sp : Sp) : Prop := ∀ vs H Q E, sp vs H Q E → vs.length = n
/-- how a def's arguments come to its parameters -/
def Bd (x q : Str) (st : Stmt) (ps : List Str) : Prop := ∀ (kV doc pm : Value) (an : Option Addr) (cdv ct : Value) (us : List Value), us.length = ps.length →
  bindArgs (PySem.W.fnOf x q (defArgs st) (defBody st) (defScope st) .none kV doc pm an cdv ct) ⟨us, []⟩ = pure (ps.zip us)
theorem okF (F : ∃ fd, Fun K x q st f fd) (hm : mg x = some (.ref f)) (S : FnScope N ps (defScope st)) (b : Bd x q st ps) (l : Len ps.length sp) (h : Body P w K mg base N q st f k sp) :
    OkF P w K mg base (L2.CX P w) (k + 1) x ps sp := by
  obtain ⟨fd, F⟩ := F
  exact ⟨f, fd, hm, F.kp, F.binds b, F.okX S l h⟩
theorem okM (F : ∃ fd, Fun K x q st f fd) (hm : Meth K C x f) (hc : Cls K C) (S : FnScope N ps (defScope st)) (b : Bd x q st ps) (l : Len ps.length sp) (h : Body P w K mg base N q st f k sp) :
    OkM P w K mg base (L2.CX P w) (k + 1) C x ps sp := by
  obtain ⟨fd, F⟩ := F
  exact ⟨f, fd, hm, hc, F.binds b, F.okX S l h⟩
theorem okC {y : Str} (F : ∃ fd, Fun K x q st f fd) (hm : Mk K C f) (hg : mg y = some (.ref C)) (S : FnScope N ps (defScope st)) (b : Bd x q st ps) (l : Len ps.length sp) (h : Body P w K mg base N q st f k sp) :
    OkC P w K mg base (L2.CX P w) (k + 1) y C ps sp := by
  obtain ⟨fd, F⟩ := F
  exact ⟨f, fd, hm, hg, F.binds b, F.okX S l h⟩
end
end VD
namespace VD
open PySem PySem.Spec PyProof.Rows L2
/-! ### the errors -/
/-- __init__ of an own error with one field -/
def spErr1 (C : Addr) (f : Str) : Sp := fun vs H Q _ => ∃ (a : Addr) (y : V), vs = [.ref a, y] ∧ H a = some (exo a C none) ∧
  ∀ dx, H dx = none → dx ≠ a → Q .non (upd (upd H dx (exd dx [(f, y)])) a (exo a C (some dx)))
def spErr2 (C : Addr) (f g : Str) : Sp := fun vs H Q _ => ∃ (a : Addr) (y z : V), vs = [.ref a, y, z] ∧ H a = some (exo a C none) ∧
  ∀ dx, H dx = none → dx ≠ a → Q .non (upd (upd (upd H dx (exd dx [(f, y)])) a (exo a C (some dx))) dx (exd dx [(g, z), (f, y)]))
section
variable {P : Program} {w : World} {K : PySem.W.Frag} {mg : Str → Option Value} {base : Heap}
theorem sc_Refused : FnScope ["self", "code"] ["self", "code"] (defScope s_Refused_init) := ⟨rfl, rfl, rfl, by decide +kernel, rfl, by decide +kernel, by decide +kernel⟩
theorem fn_Refused (c : Ctx K mg) : ∃ fd, FnOk P w K mg base (L2.CX P w) 1 a_Refused_init fd ["self", "code"] (spErr1 c_Refused "code") ∧ Binds K fd ["self", "code"] [] := by
  obtain ⟨fd, F⟩ := f_Refused_init c
  refine ⟨fd, F.okX sc_Refused (fun vs H Q E h => ?_) (fun cdv A outer s H vs Q E hr h => ⟨_, pss_one (ps_ost (pv 0) (pv 1)), ?_⟩), F.binds fun _ _ _ _ _ _ us hl => match us, hl with | [_, _], _ => rfl⟩
  · obtain ⟨a, y, rfl, _⟩ := h
    rfl
  · obtain ⟨a, y, rfl, ha, k⟩ := h
    exact ⟨_, rfl, _, rfl, a, c_Refused, rfl, (er_Refused c).ox, (er_Refused c).no _ (by decide), .inl ⟨ha, k⟩⟩
theorem sc_TableFault : FnScope ["self", "kind", "place"] ["self", "kind", "place"] (defScope s_TableFault_init) := ⟨rfl, rfl, rfl, by decide +kernel, rfl, by decide +kernel, by decide +kernel⟩
theorem fn_TableFault (c : Ctx K mg) : ∃ fd, FnOk P w K mg base (L2.CX P w) 1 a_TableFault_init fd ["self", "kind", "place"] (spErr2 c_TableFault "kind" "place") ∧ Binds K fd ["self", "kind", "place"] [] := by
  obtain ⟨fd, F⟩ := f_TableFault_init c
  refine ⟨fd, F.okX sc_TableFault (fun vs H Q E h => ?_) (fun cdv A outer s H vs Q E hr h => ⟨_, pss_cons (ps_ost (pv 0) (pv 1)) (pss_one (ps_ost (pv 0) (pv 2))), ?_⟩), F.binds fun _ _ _ _ _ _ us hl => match us, hl with | [_, _, _], _ => rfl⟩
  · obtain ⟨a, y, z, rfl, _⟩ := h
    rfl
  · obtain ⟨a, y, z, rfl, ha, k⟩ := h
    refine ⟨_, rfl, _, rfl, a, c_TableFault, rfl, (er_TableFault c).ox, (er_TableFault c).no _ (by decide), .inl ⟨ha, fun dx h1 h2 => ?_⟩⟩
    exact ⟨_, rfl, _, rfl, a, c_TableFault, rfl, (er_TableFault c).ox, (er_TableFault c).no _ (by decide), .inr ⟨dx, _, upd_same, (upd_ne h2).trans upd_same, by show 1 ≤ 900; decide, k dx h1 h2⟩⟩
end
/-- what an error's making asks, once for all -/
theorem mk_err1 {C : Addr} {f : Str} {v : V} {H : Hp} {Q : XK} (h : ∀ d, H d = none → Q (.ref C) (some d) (upd H d (.xd [(f, v)]))) :
    [v].length ≤ 1000 ∧ ∀ a, H a = none → spErr1 C f (.ref a :: ([v] ++ [])) (upd H a (exo a C none)) (fun u H2 => u = .non ∧ ∃ (d : Addr) (fs : List (Str × V)), H2 a = some (exo a C (some d)) ∧ H2 d = some (exd d fs) ∧ H d = none ∧ Q (.ref C) (some d) (upd (del H2 a) d (.xd fs))) (fun _ _ _ => False) := by
  refine ⟨by show 1 ≤ 1000; decide, fun a ha => ⟨a, v, rfl, upd_same, fun dx h1 h2 => ⟨rfl, dx, _, upd_same, (upd_ne h2).trans upd_same, ?_, ?_⟩⟩⟩
  · rw [upd_ne h2] at h1
    exact h1
  · rw [upd_ne h2] at h1
    have e : upd (del (upd (upd (upd H a (exo a C none)) dx (exd dx [(f, v)])) a (exo a C (some dx))) a) dx (.xd [(f, v)]) = upd H dx (.xd [(f, v)]) := by
      funext b
      by_cases hb : b = dx
      · rw [hb, upd_same, upd_same]
      · rw [upd_ne hb, upd_ne hb]
        by_cases hc : b = a
        · rw [hc, del_same, ha]
        · rw [del_ne hc, upd_ne hc, upd_ne hb, upd_ne hc]
    rw [e]
    exact h dx h1
theorem mk_err2 {C : Addr} {f g : Str} {v z : V} {H : Hp} {Q : XK} (h : ∀ d, H d = none → Q (.ref C) (some d) (upd H d (.xd [(g, z), (f, v)]))) :
    [v, z].length ≤ 1000 ∧ ∀ a, H a = none → spErr2 C f g (.ref a :: ([v, z] ++ [])) (upd H a (exo a C none)) (fun u H2 => u = .non ∧ ∃ (d : Addr) (fs : List (Str × V)), H2 a = some (exo a C (some d)) ∧ H2 d = some (exd d fs) ∧ H d = none ∧ Q (.ref C) (some d) (upd (del H2 a) d (.xd fs))) (fun _ _ _ => False) := by
  refine ⟨by show 2 ≤ 1000; decide, fun a ha => ⟨a, v, z, rfl, upd_same, fun dx h1 h2 => ⟨rfl, dx, _, (upd_ne h2.symm).trans upd_same, upd_same, ?_, ?_⟩⟩⟩
  · rw [upd_ne h2] at h1
    exact h1
  · rw [upd_ne h2] at h1
    have e : upd (del (upd (upd (upd (upd H a (exo a C none)) dx (exd dx [(f, v)])) a (exo a C (some dx))) dx (exd dx [(g, z), (f, v)])) a) dx (.xd [(g, z), (f, v)]) = upd H dx (.xd [(g, z), (f, v)]) := by
      funext b
      by_cases hb : b = dx
      · rw [hb, upd_same, upd_same]
      · rw [upd_ne hb, upd_ne hb]
        by_cases hc : b = a
        · rw [hc, del_same, ha]
        · rw [del_ne hc, upd_ne hb, upd_ne hc, upd_ne hb, upd_ne hc]
    rw [e]
    exact h dx h1
/-- a refusal with a code flies -/
def Rf (E : XK) (H : Hp) (z : Int) : Prop := ∀ d, H d = none → E (.ref c_Refused) (some d) (upd H d (.xd [("code", .int z)]))
/-- need's promise -/
def spNeed : Sp := fun vs H Q E => ∃ (b : Bool) (z : Int), vs = [.bl b, .int z] ∧ (b = true → Q .non H) ∧ (b = false → Rf E H z)
section
variable {P : Program} {w : World} {K : PySem.W.Frag} {mg : Str → Option Value} {base : Heap}
theorem sc_need : FnScope ["good", "code"] ["good", "code"] (defScope s_need) := ⟨rfl, rfl, rfl, by decide +kernel, rfl, by decide +kernel, by decide +kernel⟩
theorem ok_need (c : Ctx K mg) : OkF P w K mg base (L2.CX P w) 3 "need" ["good", "code"] spNeed := by
  obtain ⟨fd, FI, bI⟩ := fn_Refused (P := P) (w := w) (base := base) c
  have T := er_Refused c
  refine okF (f_need c) (g_need c) sc_need (fun _ _ _ _ _ _ us hl => match us, hl with | [_, _], _ => rfl) (fun vs H Q E h => ?_) fun cdv A outer s H vs Q E hr h => ⟨_, pss_one (ps_if (pt_not (pt_val (pv 0)))
    (pss_one (ps_raise rfl (takes_of rfl rfl rfl rfl) (pmk_oex T.ox T.ini T.fnc FI hr bI .nil passL rfl (g_Refused c) (pa_cons (pv 1) pa_nil)))) pss_nil), ?_⟩
  · obtain ⟨b, z, rfl, _⟩ := h
    rfl
  · obtain ⟨b, z, rfl, k1, k2⟩ := h
    refine ⟨_, rfl, b, rfl, ?_⟩
    cases b with
    | true => exact iteF (k1 rfl)
    | false => exact iteT ⟨_, rfl, mk_err1 (k2 rfl)⟩
end
end VD
namespace VD
open PySem PySem.Spec PyProof.Rows L2
/-! ### pairs of lists -/
section
variable {α β γ : Type} {F G : α → β → Prop}
theorem pr_at : ∀ {l : List α} {m : List β} {i : Nat} {a : α} {b : β}, Paired F l m → l[i]? = some a → m[i]? = some b → F a b
  | _, _, _, _, _, .nil, h, _ => by simp at h
  | _, _, 0, _, _, .cons r _, h1, h2 => by
    cases Option.some.inj h1
    cases Option.some.inj h2
    exact r
  | _, _, i + 1, _, _, .cons _ t, h1, h2 => pr_at (i := i) t h1 h2
theorem pr_get {l : List α} {m : List β} (p : Paired F l m) {i : Nat} {a : α} (h : l[i]? = some a) : ∃ b, m[i]? = some b ∧ F a b := by
  have hl := p.length
  obtain ⟨hi, _⟩ := List.getElem?_eq_some_iff.mp h
  have hm : m[i]? = some (m[i]'(by omega)) := List.getElem?_eq_getElem (by omega)
  exact ⟨_, hm, pr_at p h hm⟩
theorem pr_get' {l : List α} {m : List β} (p : Paired F l m) {i : Nat} {b : β} (h : m[i]? = some b) : ∃ a, l[i]? = some a ∧ F a b := by
  have hl := p.length
  obtain ⟨hi, _⟩ := List.getElem?_eq_some_iff.mp h
  have hm : l[i]? = some (l[i]'(by omega)) := List.getElem?_eq_getElem (by omega)
  exact ⟨_, hm, pr_at p hm h⟩
theorem pr_append : ∀ {l l' : List α} {m m' : List β}, Paired F l m → Paired F l' m' → Paired F (l ++ l') (m ++ m')
  | _, _, _, _, .nil, s => s
  | _, _, _, _, .cons r t, s => .cons r (pr_append t s)
theorem pr_mapR {H : α → γ → Prop} (f : β → γ) : ∀ {l : List α} {m : List β}, Paired F l m → (∀ a b, F a b → H a (f b)) → Paired H l (m.map f)
  | _, _, .nil, _ => .nil
  | _, _, .cons r t, k => .cons (k _ _ r) (pr_mapR f t k)
theorem pr_mem {l : List α} {m : List β} (p : Paired F l m) {a : α} (h : a ∈ l) : ∃ b ∈ m, F a b := by
  obtain ⟨i, hi⟩ := List.getElem?_of_mem h
  obtain ⟨b, h1, h2⟩ := pr_get p hi
  exact ⟨b, List.mem_of_getElem? h1, h2⟩
theorem pr_drop (n : Nat) : ∀ {l : List α} {m : List β}, Paired F l m → Paired F (l.drop n) (m.drop n) := by
  induction n with
  | zero => exact fun p => p
  | succ n ih =>
    intro l m p
    cases p with
    | nil => exact .nil
    | cons r t => exact ih t
theorem pr_take (n : Nat) : ∀ {l : List α} {m : List β}, Paired F l m → Paired F (l.take n) (m.take n) := by
  induction n with
  | zero => exact fun _ => .nil
  | succ n ih =>
    intro l m p
    cases p with
    | nil => exact .nil
    | cons r t => exact .cons r (ih t)
theorem pr_and {l : List α} {m : List β} (p : Paired F l m) (q : Paired G l m) : Paired (fun a b => F a b ∧ G a b) l m := by
  induction p with
  | nil => exact .nil
  | cons r t ih =>
    cases q with
    | cons r' t' => exact .cons ⟨r, r'⟩ (ih t')
theorem pr_set {a : α} {b : β} : ∀ {l : List α} {m : List β} (i : Nat), Paired F l m → F a b → Paired F (l.set i a) (m.set i b)
  | _, _, _, .nil, _ => .nil
  | _, _, 0, .cons _ t, h => .cons h t
  | _, _, i + 1, .cons r t, h => .cons r (pr_set i t h)
theorem pr_of {f : α → β} (h : ∀ a, F a (f a)) : ∀ l : List α, Paired F l (l.map f)
  | [] => .nil
  | a :: r => .cons (h a) (pr_of h r)
theorem pr_rep {a : α} {b : β} (h : F a b) : ∀ n, Paired F (List.replicate n a) (List.replicate n b)
  | 0 => .nil
  | n + 1 => .cons h (pr_rep h n)
end
theorem map_at {α β : Type} {f : α → β} {l : List α} {i : Nat} {y : β} (h : (l.map f)[i]? = some y) : ∃ n, l[i]? = some n ∧ y = f n := by
  rw [List.getElem?_map] at h
  cases e : l[i]? with
  | none =>
    rw [e] at h
    cases h
  | some n =>
    rw [e] at h
    exact ⟨n, rfl, (Option.some.inj h).symm⟩
theorem drop_at {α : Type} {l : List α} {i : Nat} {n : α} (h : l[i]? = some n) : l.drop i = n :: l.drop (i + 1) := by
  obtain ⟨h1, h2⟩ := List.getElem?_eq_some_iff.mp h
  rw [List.drop_eq_getElem_cons h1, h2]
/-! ### heaps -/
theorem _root_.L2.Same.new {H : Hp} {p : Addr} {o : HO} (h : H p = none) : Same H (upd H p o) := fun b u e => (upd_ne (ne_of_none e h)).trans e
theorem _root_.L2.Same.put {H H' : Hp} {p : Addr} {o : HO} (e : Same H H') (h : H p = none) : Same H (upd H' p o) := fun b u z => (upd_ne (ne_of_none z h)).trans (e b u z)
theorem _root_.L2.Same.ne {H H' : Hp} (e : Same H H') {p q : Addr} {o : HO} (h : H p = some o) (hq : H' q = none) : p ≠ q := ne_of_none (e _ _ h) hq
/-- what is new behind H is new ahead of it -/
theorem _root_.L2.Same.old {H H' : Hp} (e : Same H H') {p : Addr} (h : H' p = none) : H p = none := e.free h
/-- all as it was but at these -/
def But (ms : List Addr) (H H' : Hp) : Prop := ∀ b o, H b = some o → b ∉ ms → H' b = some o
theorem _root_.L2.Same.but {H H' : Hp} (e : Same H H') (ms : List Addr) : But ms H H' := fun b o h _ => e b o h
theorem But.trans {ms : List Addr} {H H1 H2 : Hp} (a : But ms H H1) (b : But ms H1 H2) : But ms H H2 := fun c o h n => b c o (a c o h n) n
theorem But.same {H H' : Hp} (a : But [] H H') : Same H H' := fun b o h => a b o h (by simp)
theorem But.put {ms : List Addr} {H H' : Hp} {p : Addr} {o : HO} (a : But ms H H') (h : p ∈ ms) : But ms H (upd H' p o) := fun b u z n => (upd_ne fun e => n (by rw [e]; exact h)).trans (a b u z n)
theorem But.mono {ms ms' : List Addr} {H H' : Hp} (a : But ms H H') (h : ∀ x ∈ ms, x ∈ ms' ∨ H x = none) : But ms' H H' := fun b o z n => a b o z fun q => by
  rcases h b q with r | r
  · exact n r
  · rw [r] at z
    cases z
/-- the heap without some -/
def drp (H : Hp) (ms : List Addr) : Hp := fun b => if b ∈ ms then none else H b
theorem drp_of {H : Hp} {ms : List Addr} {b : Addr} {o : HO} (h : drp H ms b = some o) : H b = some o ∧ b ∉ ms := by
  unfold drp at h
  by_cases q : b ∈ ms
  · rw [if_pos q] at h
    cases h
  · rw [if_neg q] at h
    exact ⟨h, q⟩
theorem drp_at {H : Hp} {ms : List Addr} {b : Addr} {o : HO} (h : H b = some o) (n : b ∉ ms) : drp H ms b = some o := by
  unfold drp
  rw [if_neg n]
  exact h
theorem drp_same {H : Hp} {ms : List Addr} : Same (drp H ms) H := fun _ _ h => (drp_of h).1
theorem But.drp {ms : List Addr} {H H' : Hp} (a : But ms H H') : Same (drp H ms) (drp H' ms) := fun b o h => by
  obtain ⟨h1, h2⟩ := drp_of h
  exact drp_at (a b o h1 h2) h2
/-! ### numbers, words -/
def nv (n : Nat) : V := .int (n : Int)
theorem nv_inj {a b : Nat} (h : nv a = nv b) : a = b := by
  unfold nv at h
  injection h with e
  omega
abbrev LN (H : Hp) (a : Addr) (ns : List Nat) : Prop := H a = some (.lst (ns.map nv))
abbrev LI (H : Hp) (a : Addr) (ns : List Int) : Prop := H a = some (.lst (ns.map V.int))
/-- a list of words, of rows -/
def LW (H : Hp) (a : Addr) (ws : List (List Nat)) : Prop := ∃ as : List Addr, H a = some (.lst (as.map V.ref)) ∧ Paired (fun b w => LN H b w) as ws
theorem LW.same {H H' : Hp} (e : Same H H') {a : Addr} {ws : List (List Nat)} (h : LW H a ws) : LW H' a ws := by
  obtain ⟨as, h1, h2⟩ := h
  exact ⟨as, e _ _ h1, Paired.mono (fun b w => e _ _) h2⟩
theorem nv_map (l : List Nat) : l.map nv = (l.map fun (n : Nat) => (n : Int)).map V.int := by
  rw [List.map_map]
  rfl
/-! ### data -/
def dn (n : Nat) : PyData := .int (n : Int)
def dw (w : List Nat) : PyData := .list (w.map dn)
def dws (ws : List (List Nat)) : PyData := .list (ws.map dw)
section
variable {K : PySem.W.Frag} {H : Hp}
theorem dp_nats : ∀ w : List Nat, DpAll K H (w.map nv) (w.map dn)
  | [] => .nil
  | n :: r => .cons (.int _) (dp_nats r)
theorem dp_w {a : Addr} {w : List Nat} (h : LN H a w) : Dp K H (.ref a) (dw w) := .lst (SqL.of h) (dp_nats w)
theorem dp_pr : ∀ {as : List Addr} {ws : List (List Nat)}, Paired (fun b w => LN H b w) as ws → DpAll K H (as.map V.ref) (ws.map dw)
  | _, _, .nil => .nil
  | _, _, .cons h t => .cons (dp_w h) (dp_pr t)
theorem dp_ws {a : Addr} {ws : List (List Nat)} (h : LW H a ws) : Dp K H (.ref a) (dws ws) := by
  obtain ⟨as, h1, h2⟩ := h
  exact .lst (SqL.of h1) (dp_pr h2)
end
theorem eqv_dn (a b : Nat) : PyData.eqv (dn a) (dn b) = (a == b) := by
  show ((a : Int) == (b : Int)) = (a == b)
  rw [Bool.eq_iff_iff, beq_iff_eq, beq_iff_eq]
  omega
theorem eqv_dns : ∀ v w : List Nat, PyData.eqvAll (v.map dn) (w.map dn) = (v == w)
  | [], [] => rfl
  | [], _ :: _ => rfl
  | _ :: _, [] => rfl
  | a :: v, b :: w => by
    show (PyData.eqv (dn a) (dn b) && PyData.eqvAll (v.map dn) (w.map dn)) = _
    rw [eqv_dn, eqv_dns v w]
    rfl
theorem eqv_dw (v w : List Nat) : PyData.eqv (dw v) (dw w) = (v == w) := by
  show PyData.eqvAll (v.map dn) (w.map dn) = _
  exact eqv_dns v w
theorem lay_dns : ∀ w : List Nat, PyData.canLayAll0 (w.map dn) = true
  | [] => rfl
  | n :: r => by
    show (PyData.canLay0 (dn n) && PyData.canLayAll0 (r.map dn)) = true
    rw [lay_dns r]
    rfl
theorem dep_dns : ∀ w : List Nat, PyData.depthAll (w.map dn) ≤ 1
  | [] => by simp [PyData.depthAll]
  | n :: r => by
    have h := dep_dns r
    have h2 : (dn n).depth ≤ 1 := by simp [dn, PyData.depth]
    simp only [List.map_cons, PyData.depthAll]
    omega
theorem dep_dw (w : List Nat) : (dw w).depth ≤ 2 := by
  have h := dep_dns w
  simp only [dw, PyData.depth]
  omega
theorem lay_dw (w : List Nat) : (dw w).canLay0 = true := by
  simp only [dw, PyData.canLay0]
  exact lay_dns w
theorem lay_dwsA : ∀ ws : List (List Nat), PyData.canLayAll0 (ws.map dw) = true
  | [] => rfl
  | w :: r => by
    show (PyData.canLay0 (dw w) && PyData.canLayAll0 (r.map dw)) = true
    rw [lay_dwsA r, lay_dw w]
    rfl
theorem dep_dwsA : ∀ ws : List (List Nat), PyData.depthAll (ws.map dw) ≤ 2
  | [] => by simp [PyData.depthAll]
  | w :: r => by
    have h := dep_dwsA r
    have h2 := dep_dw w
    simp only [List.map_cons, PyData.depthAll]
    omega
theorem shaped_of {d : PyData} (h1 : d.canLay0 = true) (h2 : d.depth ≤ 64) : SeqAt.shaped d = true := by
  show (d.canLay0 && decide (d.depth ≤ 64)) = true
  rw [Bool.and_eq_true]
  exact ⟨h1, decide_eq_true h2⟩
theorem sh_dw (w : List Nat) : SeqAt.shaped (dw w) = true := shaped_of (lay_dw w) (by have := dep_dw w; omega)
theorem sh_dws (ws : List (List Nat)) : SeqAt.shaped (dws ws) = true := by
  refine shaped_of ?_ ?_
  · simp only [dws, PyData.canLay0]
    exact lay_dwsA ws
  · have := dep_dwsA ws
    simp only [dws, PyData.depth]
    omega
theorem hu65 {k : Nat} {A : Around} (hr : Room k A) : A.units + 65 < cLine := by
  have := hr.un
  omega
/-! ### readings that come often -/
theorem r_le2 {i j k : Int} {Q : VK} {H : Hp} (h : Q (.bl (decide (i ≤ j) && decide (j ≤ k))) H) :
    ∃ i' j', V.int i = V.int i' ∧ V.int j = V.int j' ∧ ∃ z, V.bl (decide (i' ≤ j')) = V.bl z ∧ (if z = true then ∃ i' j', V.int j = V.int i' ∧ V.int k = V.int j' ∧ Q (.bl (decide (i' ≤ j'))) H else Q (.bl false) H) := by
  refine ⟨_, _, rfl, rfl, _, rfl, ?_⟩
  by_cases c : i ≤ j
  · simp only [c, decide_true, if_true, Bool.true_and] at h ⊢
    exact ⟨_, _, rfl, rfl, h⟩
  · simpa [c] using h
theorem sz1000 {n : Nat} (h : n ≤ 100000) : n ≤ sizeLine := Nat.le_trans h (by decide)
end VD
namespace VD
open PySem PySem.Spec PyProof.Rows L2
/-! ### comprehensions: the new list holds, item by item, what is told -/
section
variable {α : Type}
/-- behind i turns: the new list at D holds out i, as R says of a value and what it stands for -/
def LcAt (R : Hp → V → α → Prop) (out : Nat → List α) (H1 : Hp) (D : Addr) (i : Nat) (H : Hp) : Prop :=
  H1 D = none ∧ Same H1 H ∧ ∃ vs, H D = some (.lst vs) ∧ Paired (R (drp H [D])) vs (out i)
theorem drp_upd {H : Hp} {D : Addr} {o : HO} : drp (upd H D o) [D] = drp H [D] := by
  funext b
  unfold drp
  by_cases e : b = D
  · rw [if_pos (by simp [e]), if_pos (by simp [e])]
  · rw [if_neg (by simp [e]), if_neg (by simp [e]), upd_ne e]
variable {R : Hp → V → α → Prop} {out : Nat → List α} {H1 H H4 : Hp} {D : Addr} {i : Nat}
theorem LcAt.yes (p : LcAt R out H1 D i H) (mono : ∀ H H' v e, Same H H' → R H v e → R H' v e) (s : Same H H4) {y : V} {e : α} (ho : out (i + 1) = out i ++ [e]) (hr : R (drp H4 [D]) y e) (hz : (out i).length < 16777216) :
    ∃ acc, H4 D = some (.lst acc) ∧ acc.length < sizeLine ∧ LcAt R out H1 D (i + 1) (upd H4 D (.lst (acc ++ [y]))) := by
  obtain ⟨h1, h2, vs, h3, h4⟩ := p
  refine ⟨vs, s _ _ h3, ?_, h1, (h2.trans s).put h1, _, upd_same, ?_⟩
  · rw [h4.length, sizeLine_eq]
    exact hz
  · rw [ho, drp_upd]
    exact pr_append (Paired.mono (fun v e => mono _ _ v e (But.drp (s.but [D]))) h4) (.cons hr .nil)
theorem LcAt.no (p : LcAt R out H1 D i H) (mono : ∀ H H' v e, Same H H' → R H v e → R H' v e) (s : Same H H4) (ho : out (i + 1) = out i) : LcAt R out H1 D (i + 1) H4 := by
  obtain ⟨h1, h2, vs, h3, h4⟩ := p
  refine ⟨h1, h2.trans s, vs, s _ _ h3, ?_⟩
  rw [ho]
  exact Paired.mono (fun v e => mono _ _ v e (But.drp (s.but [D]))) h4
theorem lcR {J : It} {n : Nat} {G : Hp → Prop} {Y : Nat → Hp → V → Hp → Prop} (w : Walk J n G Y) {g : TG} {tt : TT} {te : TE} {vs : List Nat} {σ : L2.St} {Qd : Hp → Prop} (R : Hp → V → α → Prop) (out : Nat → List α) (mono : ∀ H H' v e, Same H H' → R H v e → R H' v e)
    (hD : H1 D = none) (h0 : out 0 = []) (hG : ∀ H, Same H1 H → G H)
    (hs : ∀ i x H H', i < n → LcAt R out H1 D i H → Y i H x H' → g x (wipe σ vs) H' fun σ2 H2 => wipe σ2 vs = wipe σ vs ∧ tt σ2 H2 fun b H3 =>
      if b = true then te σ2 H3 fun y H4 => ∃ acc, H4 D = some (.lst acc) ∧ acc.length < sizeLine ∧ LcAt R out H1 D (i + 1) (upd H4 D (.lst (acc ++ [y]))) else LcAt R out H1 D (i + 1) H3)
    (hd : ∀ H vs, Same H1 H → H D = some (.lst vs) → Paired (R H) vs (out n) → Qd H) :
    ∃ W : Nat → Nat → Hp → Prop, (∃ m, W 0 m (upd H1 D (.lst []))) ∧ ∀ i m H, W i m H →
      (J.stop i H ∧ Qd H) ∨ (J.go i H ∧ ∃ Nx : Hp → Prop, (∀ H', Nx H' → ∃ m', m' < m ∧ W (i + 1) m' H') ∧ ∀ x H', J.yld i H x H' → g x (wipe σ vs) H' fun σ2 H2 => wipe σ2 vs = wipe σ vs ∧ tt σ2 H2 fun b H3 =>
        if b = true then te σ2 H3 fun y H4 => ∃ acc, H4 D = some (.lst acc) ∧ acc.length < sizeLine ∧ Nx (upd H4 D (.lst (acc ++ [y]))) else Nx H3) :=
  lc_it w (LcAt R out H1 D) ⟨hD, Same.new hD, [], upd_same, by rw [h0]; exact .nil⟩ (fun i H _ p => hG H p.2.1) hs fun H p => by
    obtain ⟨_, h2, vs, h3, h4⟩ := p
    exact hd H vs h2 h3 (Paired.mono (fun v e => mono _ _ v e drp_same) h4)
end
/-- values that name no object -/
def RV0 (_ : Hp) (v x : V) : Prop := v = x
theorem rv0_mono : ∀ (H H' : Hp) (v e : V), Same H H' → RV0 H v e → RV0 H' v e := fun _ _ _ _ _ h => h
theorem rv0_eq {H : Hp} : ∀ {vs es : List V}, Paired (RV0 H) vs es → vs = es
  | _, _, .nil => rfl
  | _, _, .cons (h : _ = _) t => by rw [h, rv0_eq t]
theorem take_succ {β : Type} {l : List β} {i : Nat} {x : β} (h : l[i]? = some x) : l.take (i + 1) = l.take i ++ [x] := by
  rw [List.take_succ, h]
  rfl
/-- a reference to a list of numbers -/
def RW0 (H : Hp) (v : V) (ns : List Nat) : Prop := ∃ a, v = .ref a ∧ LN H a ns
theorem rw0_mono : ∀ (H H' : Hp) (v : V) (e : List Nat), Same H H' → RW0 H v e → RW0 H' v e := fun _ _ _ _ s ⟨a, h1, h2⟩ => ⟨a, h1, s _ _ h2⟩
theorem lw_of {H : Hp} {a : Addr} {vs : List V} {ws : List (List Nat)} (h : H a = some (.lst vs)) (p : Paired (RW0 H) vs ws) : LW H a ws := by
  have key : ∀ {vs : List V} {ws : List (List Nat)}, Paired (RW0 H) vs ws → ∃ as : List Addr, vs = as.map V.ref ∧ Paired (fun b w => LN H b w) as ws := by
    intro vs ws p
    induction p with
    | nil => exact ⟨[], rfl, .nil⟩
    | cons r t ih =>
      obtain ⟨a, e, h⟩ := r
      obtain ⟨as, e2, q⟩ := ih
      exact ⟨a :: as, by rw [e, e2]; rfl, .cons h q⟩
  obtain ⟨as, e, q⟩ := key p
  exact ⟨as, by rw [h, e], q⟩
/-! ### a list that a loop fills -/
section
variable {α : Type}
/-- at f, new behind H0: what acc tells, item by item -/
def AcAt (R : Hp → V → α → Prop) (H0 : Hp) (f : Addr) (acc : List α) (H : Hp) : Prop := LcAt R (fun _ => acc) H0 f 0 H
variable {R : Hp → V → α → Prop} {H0 H H4 : Hp} {f : Addr} {acc : List α}
theorem AcAt.start (h : H0 f = none) : AcAt R H0 f [] (upd H0 f (.lst [])) := ⟨h, Same.new h, [], upd_same, .nil⟩
theorem AcAt.same0 (p : AcAt R H0 f acc H) : Same H0 H := p.2.1
theorem AcAt.grow (p : AcAt R H0 f acc H) (mono : ∀ H H' v e, Same H H' → R H v e → R H' v e) (s : Same H H4) : AcAt R H0 f acc H4 := LcAt.no p mono s rfl
theorem AcAt.lst (p : AcAt R H0 f acc H) : ∃ vs, H f = some (.lst vs) ∧ vs.length = acc.length := by
  obtain ⟨_, _, vs, h3, h4⟩ := p
  exact ⟨vs, h3, h4.length⟩
theorem AcAt.add (p : AcAt R H0 f acc H) (mono : ∀ H H' v e, Same H H' → R H v e → R H' v e) {vs : List V} (hv : H f = some (.lst vs)) {y : V} {e : α} (hr : R (drp H [f]) y e) : AcAt R H0 f (acc ++ [e]) (upd H f (.lst (vs ++ [y]))) := by
  obtain ⟨h1, h2, vs', h3, h4⟩ := p
  rw [hv] at h3
  cases h3
  refine ⟨h1, h2.put h1, _, upd_same, ?_⟩
  rw [drp_upd]
  exact pr_append h4 (.cons hr .nil)
/-- several at once -/
theorem AcAt.adds (p : AcAt R H0 f acc H) {vs : List V} (hv : H f = some (.lst vs)) {ys : List V} {es : List α} (hr : Paired (R (drp H [f])) ys es) : AcAt R H0 f (acc ++ es) (upd H f (.lst (vs ++ ys))) := by
  obtain ⟨h1, h2, vs', h3, h4⟩ := p
  rw [hv] at h3
  cases h3
  refine ⟨h1, h2.put h1, _, upd_same, ?_⟩
  rw [drp_upd]
  exact pr_append h4 hr
theorem AcAt.done (p : AcAt R H0 f acc H) (mono : ∀ H H' v e, Same H H' → R H v e → R H' v e) : ∃ vs, H f = some (.lst vs) ∧ Paired (R H) vs acc := by
  obtain ⟨_, _, vs, h3, h4⟩ := p
  exact ⟨vs, h3, Paired.mono (fun v e => mono _ _ v e drp_same) h4⟩
theorem AcAt.off (p : AcAt R H0 f acc H) {b : Addr} {o : HO} (h : H0 b = some o) : b ≠ f := ne_of_none h p.1
end
theorem rv0_self {H : Hp} : ∀ vs : List V, Paired (RV0 H) vs vs
  | [] => .nil
  | _ :: r => .cons rfl (rv0_self r)
theorem cutV_nat {xs : List V} {i j : Nat} (h1 : i ≤ j) (h2 : j ≤ xs.length) : cutV xs (some (i : Int)) (some (j : Int)) = (xs.drop i).take (j - i) := by
  unfold cutV
  rw [HT.sIx_nat, HT.sIx_nat, Nat.min_eq_left h2, Nat.min_eq_left (Nat.le_trans h1 h2)]
theorem map_cut {β : Type} (f : β → V) (l : List β) (i j : Nat) : ((l.map f).drop i).take j = ((l.drop i).take j).map f := by
  rw [← List.map_drop, ← List.map_take]
end VD
namespace VD
open PySem PySem.Spec PyProof.Rows L2
/-! ### rules that name the written part themselves (within a comprehension's block the context is another one) -/
section
variable {X : Cx} {K : PySem.W.Frag}
theorem ix_listK (h : X.K = K) : IxR X (rIxL K) := h ▸ ix_list
theorem ix_tupK (h : X.K = K) : IxR X (rIxT K) := h ▸ ix_tup
theorem in_seqK (h : X.K = K) : OpR X (compareOp .In) (rIn K false) := h ▸ op_in_seq
theorem notIn_seqK (h : X.K = K) : OpR X (compareOp .NotIn) (rIn K true) := h ▸ op_notIn_seq
theorem inDK (h : X.K = K) (hu : X.A.units + 65 < cLine) : OpR X (compareOp .In) (rInD K) := h ▸ op_inD hu
theorem notInDK (h : X.K = K) (hu : X.A.units + 65 < cLine) : OpR X (compareOp .NotIn) (rNotInD K) := h ▸ op_notInD hu
theorem eqDK (h : X.K = K) (hu : X.A.units + 64 < cLine) : OpR X (compareOp .Eq) (rEqD K) := h ▸ op_eqD hu
theorem neDK (h : X.K = K) (hu : X.A.units + 64 < cLine) : OpR X (compareOp .NotEq) (rNeD K) := h ▸ op_neD hu
def rLenK (K : PySem.W.Frag) : List V → Hp → VK → Prop := fun xs H Q => ∃ p ys, xs = [.ref p] ∧ (SqL K H p ys ∨ SqT K H p ys) ∧ Q (.int ys.length) H
theorem lenK (h : X.K = K) : CallR X (.builtin "len") (rLenK K) := h ▸ call_len_seq
def rListK (K : PySem.W.Frag) : List V → Hp → VK → Prop := fun xs H Q => ∃ p ys, xs = [.ref p] ∧ (SqL K H p ys ∨ SqT K H p ys) ∧ ∀ l, H l = none → Q (.ref l) (upd H l (.lst ys))
theorem listK (h : X.K = K) : CallR X (.type "list") (rListK K) := h ▸ call_list_of
theorem minK (h : X.K = K) (hc : X.calm = true) : CallR X (.builtin "min") (rMin K) := h ▸ cr_min hc
theorem anyK (h : X.K = K) (hc : X.calm = true) : CallR X (.builtin "any") (rAny K) := h ▸ cr_any hc
theorem allK (h : X.K = K) (hc : X.calm = true) : CallR X (.builtin "all") (rAll K) := h ▸ cr_all hc
theorem sortedK (h : X.K = K) : CallR X (.builtin "sorted") (rSortedI K) := h ▸ cr_sortedI
theorem indexK (h : X.K = K) (hu : X.A.units + 65 < cLine) : MtR X "list.index" (rIndexD K) := h ▸ mt_indexD hu
theorem sl_listK (h : X.K = K) : SlR X (rSlL K) := h ▸ sl_list
theorem pe_fldK (h : X.K = K) {e : Expr} {f : Str} {pos : Pos} {te : TE} (he : PE X e te) (hb : attributeBase e f X.env (eval e X.env) = eval e X.env := by rfl) : PE X (.Attribute e f pos) (tFld K te f) := h ▸ pe_fld he hb
end
end VD
namespace VD
/-! ## plain facts about permutations -/
theorem nodup_sub : ∀ {l m : List Nat}, l.Nodup → (∀ a ∈ l, a ∈ m) → l.length ≤ m.length ∧ (l.length = m.length → m.Perm l)
  | [], m, _, _ => ⟨Nat.zero_le _, fun h => by
    have e : m = [] := List.eq_nil_of_length_eq_zero h.symm
    rw [e]⟩
  | a :: l, m, nd, h => by
    obtain ⟨n1, n2⟩ := List.nodup_cons.mp nd
    have ha : a ∈ m := h a List.mem_cons_self
    have hm := List.perm_cons_erase ha
    have hl := List.length_erase_of_mem ha
    have hp : 0 < m.length := List.length_pos_of_mem ha
    obtain ⟨i1, i2⟩ := nodup_sub (l := l) (m := m.erase a) n2 fun b hb => (List.mem_erase_of_ne (fun (e : b = a) => n1 (by rw [← e]; exact hb))).mpr (h b (List.mem_cons_of_mem _ hb))
    refine ⟨by simp only [List.length_cons]; omega, fun e => ?_⟩
    simp only [List.length_cons] at e
    exact hm.trans (.cons a (i2 (by omega)))
theorem isPerm_iff {n : Nat} {o : List Nat} : Vbndaa.isPermutation n o = true ↔ o.length = n ∧ (∀ a ∈ o, a < n) ∧ ∀ a, a < n → a ∈ o := by
  unfold Vbndaa.isPermutation
  simp only [Bool.and_eq_true, beq_iff_eq, List.all_eq_true, decide_eq_true_eq, List.mem_range, List.contains_iff_mem]
theorem isPerm_perm {n : Nat} {o : List Nat} (h : Vbndaa.isPermutation n o = true) : o.Perm (List.range n) := by
  obtain ⟨h1, _, h3⟩ := isPerm_iff.mp h
  exact (nodup_sub List.nodup_range fun a ha => h3 a (List.mem_range.mp ha)).2 (by rw [List.length_range, h1])
theorem perm_isPerm {n : Nat} {o : List Nat} (h : o.Perm (List.range n)) : Vbndaa.isPermutation n o = true := by
  refine isPerm_iff.mpr ⟨by rw [h.length_eq, List.length_range], fun a ha => List.mem_range.mp (h.mem_iff.mp ha), fun a ha => h.mem_iff.mpr (List.mem_range.mpr ha)⟩
theorem isPerm_nodup {n : Nat} {o : List Nat} (h : Vbndaa.isPermutation n o = true) : o.Nodup := (isPerm_perm h).nodup_iff.mpr List.nodup_range
theorem nd_inj {l : List Nat} (nd : l.Nodup) {i j : Nat} {a : Nat} (h1 : l[i]? = some a) (h2 : l[j]? = some a) : i = j := by
  obtain ⟨i1, e1⟩ := List.getElem?_eq_some_iff.mp h1
  obtain ⟨j1, e2⟩ := List.getElem?_eq_some_iff.mp h2
  exact (List.getElem_inj nd).mp (e1.trans e2.symm)
theorem getD_some {l : List Nat} {i d : Nat} (h : i < l.length) : l[i]? = some (l.getD i d) := by
  rw [List.getD_eq_getElem?_getD, List.getElem?_eq_getElem h]
  rfl
/-- what sorted hands over is 0, 1, .. just where it is a permutation -/
theorem sorted_range {ns : List Nat} {zs : List Int} (hp : zs.Perm (ns.map fun (n : Nat) => (n : Int))) (hs : zs.Pairwise (· ≤ ·)) (n : Nat) :
    (zs = (List.range n).map fun (n : Nat) => (n : Int)) ↔ Vbndaa.isPermutation n ns = true := by
  constructor
  · intro e
    subst e
    apply perm_isPerm
    have h := hp.map Int.toNat
    rw [List.map_map, List.map_map] at h
    have e1 : ∀ l : List Nat, l.map (Int.toNat ∘ fun (n : Nat) => (n : Int)) = l := fun l => by
      have : (Int.toNat ∘ fun (n : Nat) => (n : Int)) = id := by
        funext x
        exact Int.toNat_natCast x
      rw [this, List.map_id]
    rw [e1, e1] at h
    exact h.symm
  · intro h
    have h2 := hp.trans ((isPerm_perm h).map _)
    refine List.Perm.eq_of_pairwise (le := (· ≤ ·)) (fun a b _ _ h1 h2 => Int.le_antisymm h1 h2) hs ?_ h2
    rw [List.pairwise_map]
    exact List.pairwise_lt_range.imp fun {a b} h => by
      show (a : Int) ≤ b
      omega
theorem factorial_pos : ∀ n, 0 < Vbndaa.factorial n
  | 0 => Nat.one_pos
  | n + 1 => Nat.mul_pos (Nat.succ_pos n) (factorial_pos n)
theorem factorial_le {a b : Nat} (h : a ≤ b) : Vbndaa.factorial a ≤ Vbndaa.factorial b := by
  induction h with
  | refl => exact Nat.le_refl _
  | @step m _ ih =>
    refine Nat.le_trans ih ?_
    show _ ≤ (m + 1) * Vbndaa.factorial m
    exact Nat.le_mul_of_pos_left _ (Nat.succ_pos m)
theorem factorial_19 {n : Nat} (h : n ≤ 19) : Vbndaa.factorial n ≤ 121645100408832000 := Nat.le_trans (factorial_le h) (by decide)
/-! ### cycles -/
/-- the i-th position of the cycle from s -/
def orb (o : List Nat) (s : Nat) : Nat → Nat
  | 0 => s
  | i + 1 => o.getD (orb o s i) 0
theorem orb_lt {o : List Nat} (h : ∀ a ∈ o, a < o.length) {s : Nat} (hs : s < o.length) : ∀ i, orb o s i < o.length
  | 0 => hs
  | i + 1 => by
    have ih := orb_lt h hs i
    exact h _ (List.mem_of_getElem? (getD_some (d := 0) ih))
theorem orb_back {o : List Nat} (h : ∀ a ∈ o, a < o.length) (nd : o.Nodup) {s : Nat} (hs : s < o.length) : ∀ {i j : Nat}, i ≤ j → orb o s i = orb o s j → orb o s (j - i) = s
  | 0, j, _, e => e.symm
  | i + 1, j, hij, e => by
    obtain ⟨k, rfl⟩ : ∃ k, j = k + 1 := ⟨j - 1, by omega⟩
    have l1 := orb_lt h hs i
    have l2 := orb_lt h hs k
    have e2 : o.getD (orb o s i) 0 = o.getD (orb o s k) 0 := e
    have e3 : orb o s i = orb o s k := nd_inj nd (getD_some (d := 0) l1) (by rw [e2]; exact getD_some l2)
    have := orb_back h nd hs (by omega) e3
    rw [show k + 1 - (i + 1) = k - i by omega]
    exact this
/-- as long as the cycle has not come back there are fewer turns than positions -/
theorem orb_short {o : List Nat} (h : ∀ a ∈ o, a < o.length) (nd : o.Nodup) {s : Nat} (hs : s < o.length) {i : Nat} (hn : ∀ j, 0 < j → j ≤ i → orb o s j ≠ s) : i < o.length := by
  have hd : ((List.range (i + 1)).map (orb o s)).Nodup := by
    rw [List.nodup_iff_pairwise_ne, List.pairwise_map]
    refine List.pairwise_lt_range.imp_of_mem fun {a b} ha hb hlt e => ?_
    have hb' := List.mem_range.mp hb
    exact hn (b - a) (by omega) (by omega) (orb_back h nd hs (by omega) e)
  have := (nodup_sub (m := List.range o.length) hd fun a ha => by
    obtain ⟨k, _, rfl⟩ := List.mem_map.mp ha
    exact List.mem_range.mpr (orb_lt h hs k)).1
  rw [List.length_map, List.length_range, List.length_range] at this
  omega
/-- the specification's walk: behind i turns that have not come back -/
theorem cycle_go {o : List Nat} {s : Nat} : ∀ (i f : Nat), (∀ j, 0 < j → j ≤ i → orb o s j ≠ s) → Vbndaa.cycleFrom o s (i + 1 + f) s = (List.range (i + 1)).map (orb o s) ++ (if o.getD (orb o s i) 0 = s then [] else Vbndaa.cycleFrom o s f (o.getD (orb o s i) 0)) := by
  have key : ∀ (i f b : Nat) (c : Nat → Nat), c 0 = b → (∀ j, c (j + 1) = o.getD (c j) 0) → (∀ j, j < i → c (j + 1) ≠ s) →
      Vbndaa.cycleFrom o s (i + 1 + f) b = (List.range (i + 1)).map c ++ (if o.getD (c i) 0 = s then [] else Vbndaa.cycleFrom o s f (o.getD (c i) 0)) := by
    intro i
    induction i with
    | zero =>
      intro f b c h0 _ _
      rw [show 0 + 1 + f = f + 1 by omega]
      show b :: _ = [c 0] ++ _
      rw [h0]
      rfl
    | succ i ih =>
      intro f b c h0 h1 h2
      rw [show i + 1 + 1 + f = (i + 1 + f) + 1 by omega]
      show b :: (if o.getD b 0 = s then [] else Vbndaa.cycleFrom o s (i + 1 + f) (o.getD b 0)) = _
      have e0 : o.getD b 0 = c 1 := by rw [h1 0, h0]
      rw [e0, if_neg (h2 0 (Nat.succ_pos _))]
      rw [ih f (c 1) (fun j => c (j + 1)) rfl (fun j => h1 (j + 1)) fun j hj => h2 (j + 1) (by omega)]
      rw [List.range_succ_eq_map (n := i + 1), List.map_cons, List.map_map, h0]
      rfl
  intro i f h
  exact key i f s (orb o s) rfl (fun _ => rfl) fun j hj => h (j + 1) (Nat.succ_pos _) (by omega)
/-! ### inverse -/
/-- what the loop has stored behind i turns: at each entry the place at which it stands last -/
def invStep (o : List Nat) : Nat → List Nat
  | 0 => List.replicate o.length 0
  | i + 1 => (invStep o i).set (o.getD i 0) i
theorem inv_len (o : List Nat) : ∀ i, (invStep o i).length = o.length
  | 0 => List.length_replicate
  | i + 1 => by
    unfold invStep
    rw [List.length_set, inv_len o i]
theorem inv_at {o : List Nat} (h : ∀ a ∈ o, a < o.length) (nd : o.Nodup) : ∀ {i j a : Nat}, i ≤ o.length → j < i → o[j]? = some a → (invStep o i)[a]? = some j
  | 0, j, a, _, hj, _ => absurd hj (Nat.not_lt_zero _)
  | i + 1, j, a, hi, hj, ha => by
    have hlt : a < o.length := h a (List.mem_of_getElem? ha)
    have gi := getD_some (d := 0) (show i < o.length by omega)
    show ((invStep o i).set (o.getD i 0) i)[a]? = some j
    by_cases e : j = i
    · subst e
      rw [ha] at gi
      rw [← Option.some.inj gi, List.getElem?_set_self (by rw [inv_len]; exact hlt)]
    · have ne : o.getD i 0 ≠ a := fun z => e (nd_inj nd ha (by rw [gi, z]))
      rw [List.getElem?_set_ne ne]
      exact inv_at h nd (by omega) (by omega) ha
theorem inv_done {o : List Nat} (hp : Vbndaa.isPermutation o.length o = true) : invStep o o.length = Vbndaa.inverse o := by
  obtain ⟨_, h2, h3⟩ := isPerm_iff.mp hp
  have nd := isPerm_nodup hp
  unfold Vbndaa.inverse
  apply List.ext_getElem?
  intro a
  by_cases ha : a < o.length
  · obtain ⟨j, hj⟩ := List.getElem?_of_mem (h3 a ha)
    have hjl := (List.getElem?_eq_some_iff.mp hj).1
    rw [inv_at h2 nd (Nat.le_refl _) hjl hj, List.getElem?_map, List.getElem?_range ha]
    have e : (o.findIdx? fun x => x == a) = some j := by
      rw [List.findIdx?_eq_some_iff_getElem]
      obtain ⟨q1, q2⟩ := List.getElem?_eq_some_iff.mp hj
      refine ⟨q1, by rw [q2]; exact beq_self_eq_true a, fun k hk z => ?_⟩
      have := nd_inj nd (List.getElem?_eq_getElem (show k < o.length by omega)) (by rw [beq_iff_eq.mp z]; exact hj)
      omega
    show some j = some ((o.findIdx? fun x => x == a).getD 0)
    rw [e]
    rfl
  · rw [List.getElem?_eq_none (by rw [inv_len]; omega), List.getElem?_eq_none (by rw [List.length_map, List.length_range]; omega)]
/-! ### ranks -/
theorem erase_filter {l : List Nat} (nd : l.Nodup) (x : Nat) : l.erase x = l.filter fun y => y != x := nd.erase_eq_filter x
theorem rank_step : ∀ (r l : List Nat), l.Perm r → r.Nodup → Vbndaa.rankFrom l r = (match r with
    | [] => 0
    | x :: t => (t.filter fun y => decide (y < x)).length * Vbndaa.factorial t.length + Vbndaa.rankFrom (l.filter fun y => y != x) t) ∧ ∀ x t, r = x :: t → (l.filter fun y => y != x).Perm t
  | [], l, _, _ => ⟨rfl, fun _ _ h => nomatch h⟩
  | x :: t, l, hp, nd => by
    obtain ⟨n1, n2⟩ := List.nodup_cons.mp nd
    have e1 : (l.filter fun y => decide (y < x)).length = (t.filter fun y => decide (y < x)).length := by
      have := (hp.filter fun y => decide (y < x)).length_eq
      rw [this, List.filter_cons, if_neg (by simp)]
    refine ⟨?_, fun x' t' h => ?_⟩
    · show (l.filter fun y => decide (y < x)).length * _ + _ = _
      rw [e1]
    · cases h
      have := hp.filter fun y => y != x
      rw [List.filter_cons, if_neg (by simp)] at this
      refine this.trans ?_
      have e2 : t.filter (fun y => y != x) = t := List.filter_eq_self.mpr fun a ha => by
        rw [bne_iff_ne]
        exact fun e => n1 (e ▸ ha)
      rw [e2]
/-- a rank is the sum over the places -/
def rankSum : List Nat → Nat
  | [] => 0
  | x :: t => (t.filter fun y => decide (y < x)).length * Vbndaa.factorial t.length + rankSum t
theorem rank_sum : ∀ (r l : List Nat), l.Perm r → r.Nodup → Vbndaa.rankFrom l r = rankSum r
  | [], _, _, _ => rfl
  | x :: t, l, hp, nd => by
    obtain ⟨h1, h2⟩ := rank_step (x :: t) l hp nd
    rw [h1]
    show _ + _ = _ + _
    rw [rank_sum t _ (h2 x t rfl) (List.nodup_cons.mp nd).2]
theorem rank_is {o : List Nat} (hp : Vbndaa.isPermutation o.length o = true) : Vbndaa.rankPermutation o = rankSum o :=
  rank_sum o _ (isPerm_perm hp).symm (isPerm_nodup hp)
end VD
namespace VD
open PySem PySem.Spec PyProof.Rows L2
/-! ## tokens -/
/-- a new list of numbers is handed back, all else stands -/
def RetN (Q : VK) (H : Hp) (ns : List Nat) : Prop := ∀ p H', Same H H' → H p = none → LN H' p ns → Q (.ref p) H'
theorem ofString_cps (s : String) : (Str.ofString s).cps.toList = Vbndaa.toBytes s := by
  rw [Str.ofString_eq_toList]
  rfl
/-- an error or a value alone, the heap may have grown -/
def RetV (Q : VK) (H : Hp) (v : V) : Prop := ∀ H', Same H H' → Q v H'
def spBytes : Sp := fun vs H Q _ => ∃ (z : Str) (w : List Nat), vs = [.str z] ∧ z.cps.toList = w ∧ w.length ≤ 100000 ∧ RetN Q H w
/-- a new pair of numbers -/
def RP0 (H : Hp) (v : V) (p : Nat × Nat) : Prop := ∃ t, v = .ref t ∧ H t = some (.tup [nv p.1, nv p.2])
theorem rp0_mono : ∀ (H H' : Hp) (v : V) (e : Nat × Nat), Same H H' → RP0 H v e → RP0 H' v e := fun _ _ _ _ s ⟨a, h1, h2⟩ => ⟨a, h1, s _ _ h2⟩
/-- a token: its place, its bytes -/
def RT0 (H : Hp) (v : V) (p : Nat × List Nat) : Prop := ∃ t b, v = .ref t ∧ H t = some (.tup [nv p.1, .ref b]) ∧ LN H b p.2
theorem rt0_mono : ∀ (H H' : Hp) (v : V) (e : Nat × List Nat), Same H H' → RT0 H v e → RT0 H' v e := fun _ _ _ _ s ⟨a, b, h1, h2, h3⟩ => ⟨a, b, h1, s _ _ h2, s _ _ h3⟩
/-- a new list, item by item as R tells -/
def RetR {α : Type} (R : Hp → V → α → Prop) (Q : VK) (H : Hp) (es : List α) : Prop := ∀ p H' vs, Same H H' → H p = none → H' p = some (.lst vs) → Paired (R H') vs es → Q (.ref p) H'
/-! ### lines -/
def linesP : Nat → Nat → List Nat → List (Nat × Nat)
  | s, p, [] => [(s, p)]
  | s, p, c :: r => if c = 10 then (s, p) :: linesP (p + 1) (p + 1) r else linesP s (p + 1) r
theorem lines_10 (s p : Nat) (r : List Nat) : linesP s p (10 :: r) = (s, p) :: linesP (p + 1) (p + 1) r := if_pos rfl
theorem lines_ne {s p n : Nat} {r : List Nat} (h : n ≠ 10) : linesP s p (n :: r) = linesP s (p + 1) r := if_neg h
theorem lines_len : ∀ (r : List Nat) (s p : Nat), (linesP s p r).length ≤ r.length + 1
  | [], _, _ => Nat.le_refl _
  | c :: r, s, p => by
    unfold linesP
    by_cases e : c = 10
    · rw [if_pos e]
      have := lines_len r (p + 1) (p + 1)
      simp only [List.length_cons]
      omega
    · rw [if_neg e]
      have := lines_len r s (p + 1)
      simp only [List.length_cons]
      omega
theorem lines_is : ∀ (r : List Nat) (s p : Nat), ∃ l rest, Vbndaa.splitAtByte 10 p r = (p, l) :: rest ∧ linesP s p r = (s, p + l.length) :: rest.map fun x => (x.1, x.1 + x.2.length)
  | [], s, p => ⟨[], [], rfl, rfl⟩
  | c :: r, s, p => by
    unfold linesP Vbndaa.splitAtByte
    by_cases e : c = 10
    · rw [if_pos e, if_pos e]
      obtain ⟨l, rest, h1, h2⟩ := lines_is r (p + 1) (p + 1)
      exact ⟨[], _, rfl, by rw [h1, h2]; rfl⟩
    · rw [if_neg e, if_neg e]
      obtain ⟨l, rest, h1, h2⟩ := lines_is r s (p + 1)
      refine ⟨c :: l, rest, by rw [h1], ?_⟩
      rw [h2, List.length_cons, show p + 1 + l.length = p + (l.length + 1) by omega]
theorem lines_split (t : List Nat) : linesP 0 0 t = (Vbndaa.splitAtByte 10 0 t).map fun x => (x.1, x.1 + x.2.length) := by
  obtain ⟨l, rest, h1, h2⟩ := lines_is t 0 0
  rw [h1, h2]
  rfl
def spLines : Sp := fun vs H Q _ => ∃ (a : Addr) (t : List Nat), vs = [.ref a] ∧ LN H a t ∧ t.length ≤ 100000 ∧ RetR RP0 Q H (linesP 0 0 t)
/-! ### tokens -/
/-- how long a word stands ahead of the next space -/
def wl : List Nat → Nat
  | [] => 0
  | c :: r => if c = 32 then 0 else wl r + 1
theorem wl_le : ∀ l, wl l ≤ l.length
  | [] => Nat.le_refl _
  | c :: r => by
    unfold wl
    by_cases e : c = 32
    · rw [if_pos e]
      exact Nat.zero_le _
    · rw [if_neg e]
      exact Nat.succ_le_succ (wl_le r)
theorem wl_at : ∀ {l : List Nat} {i : Nat}, (∀ j, j < i → l[j]? ≠ some 32) → l[i]? = some 32 → wl l = i
  | [], _, _, h => by simp at h
  | c :: r, 0, _, h => by
    have e : c = 32 := Option.some.inj h
    unfold wl
    rw [if_pos e]
  | c :: r, i + 1, h1, h2 => by
    have e : c ≠ 32 := fun z => h1 0 (Nat.succ_pos _) (by rw [z]; rfl)
    unfold wl
    rw [if_neg e, wl_at (l := r) (i := i) (fun j hj => h1 (j + 1) (Nat.succ_lt_succ hj)) h2]
theorem wl_all : ∀ {l : List Nat}, (∀ j, j < l.length → l[j]? ≠ some 32) → wl l = l.length
  | [], _ => rfl
  | c :: r, h => by
    have e : c ≠ 32 := fun z => h 0 (Nat.succ_pos _) (by rw [z]; rfl)
    unfold wl
    rw [if_neg e, wl_all (l := r) (fun j hj => h (j + 1) (Nat.succ_lt_succ hj))]
    rfl
abbrev cut (t : List Nat) (s e : Nat) : List Nat := (t.drop s).take (e - s)
theorem cut_len {t : List Nat} {s e : Nat} (h : e ≤ t.length) : (cut t s e).length = e - s := by
  rw [List.length_take, List.length_drop]
  omega
theorem cut_at {t : List Nat} {s e i : Nat} (h : s + i < e) : (cut t s e)[i]? = t[s + i]? := by
  rw [List.getElem?_take, if_pos (by omega), List.getElem?_drop]
def spTokEnd : Sp := fun vs H Q _ => ∃ (a : Addr) (t : List Nat) (s e : Nat), vs = [.ref a, nv s, nv e] ∧ LN H a t ∧ s ≤ e ∧ e ≤ t.length ∧ t.length ≤ 100000 ∧ Q (nv (s + wl (cut t s e))) H
/-- the tokens of a piece of a text that begins at p -/
def toks (p : Nat) (l : List Nat) : List (Nat × List Nat) := (Vbndaa.tokenizeWith Vbndaa.noSeparators p l).map fun x => (x.offset, x.bytes)
theorem toks_nil (p : Nat) : toks p [] = [] := rfl
theorem toks_sp (p : Nat) (r : List Nat) : toks p (32 :: r) = toks (p + 1) r := by
  unfold toks
  rw [Vbndaa.tokenizeWith.eq_def]
  simp only [if_true]
theorem toks_w : ∀ (r : List Nat) (p c : Nat), c ≠ 32 → toks p (c :: r) = (p, (c :: r).take (wl (c :: r))) :: toks (p + wl (c :: r)) ((c :: r).drop (wl (c :: r)))
  | [], p, c, h => by
    have hn : ¬ (Vbndaa.noSeparators c = true) := fun z => Bool.noConfusion z
    unfold toks wl
    rw [Vbndaa.tokenizeWith.eq_def]
    simp only [if_neg h, if_neg hn]
    rfl
  | d :: r, p, c, h => by
    have e1 : toks p (c :: d :: r) = (if d = 32 then (p, [c]) :: toks (p + 1) (d :: r) else match toks (p + 1) (d :: r) with
        | [] => [(p, [c])]
        | w :: l => (p, c :: w.2) :: l) := by
      have hn : ¬ (Vbndaa.noSeparators c = true) := fun z => Bool.noConfusion z
      unfold toks
      rw [Vbndaa.tokenizeWith.eq_def]
      simp only [if_neg h, if_neg hn]
      by_cases hd : d = 32
      · rw [if_pos hd]
        simp only [hd, true_or, if_true, List.map_cons]
      · rw [if_neg hd]
        simp only [hd, false_or, show (Vbndaa.noSeparators d = true) = False by simp [Vbndaa.noSeparators], if_false]
        cases Vbndaa.tokenizeWith Vbndaa.noSeparators (p + 1) (d :: r) with
        | nil => rfl
        | cons w l => rfl
    rw [e1]
    have e2 : wl (c :: d :: r) = wl (d :: r) + 1 := by
      conv => lhs; unfold wl
      rw [if_neg h]
    by_cases hd : d = 32
    · rw [if_pos hd, e2]
      have e3 : wl (d :: r) = 0 := by
        unfold wl
        rw [if_pos hd]
      rw [e3]
      rfl
    · rw [if_neg hd, toks_w r (p + 1) d hd, e2]
      show (p, c :: (d :: r).take (wl (d :: r))) :: _ = (p, (c :: d :: r).take (wl (d :: r) + 1)) :: _
      rw [show p + 1 + wl (d :: r) = p + (wl (d :: r) + 1) by omega]
      rfl
def spTokens : Sp := fun vs H Q _ => ∃ (a : Addr) (t : List Nat) (s e : Nat), vs = [.ref a, nv s, nv e] ∧ LN H a t ∧ s ≤ e ∧ e ≤ t.length ∧ t.length ≤ 100000 ∧ RetR RT0 Q H (toks s (cut t s e))
section
variable {P : Program} {w : World} {K : PySem.W.Frag} {mg : Str → Option Value} {base : Heap}
abbrev N_bytes_of : List Str := ["word", "sign"]
theorem sc_bytes_of : FnScope N_bytes_of ["word"] (defScope s_bytes_of) := ⟨rfl, rfl, rfl, by decide +kernel, rfl, by decide +kernel, by decide +kernel⟩
theorem ok_bytes_of (c : Ctx K mg) : OkF P w K mg base (L2.CX P w) 1 "bytes_of" ["word"] (spBytes) := by
  refine okF (f_bytes_of c) (g_bytes_of c) sc_bytes_of (fun _ _ _ _ _ _ us hl => match us, hl with | [_], _ => rfl) (fun vs H Q E h => by obtain ⟨z, w, rfl, hw, hz, k⟩ := h; rfl) fun cdv A outer s H vs Q E hr h => ⟨_, (pss_one (ps_ret (pe_lc (g := gName 1) (own := [("sign", 1)]) rfl sc_bytes_of.nd (pi_str (pv 0)) (blkOk_by (own := [("sign", 1)]) (N := N_bytes_of) (sc := defScope s_bytes_of) (by decide +kernel)) (fun _ _ _ _ _ => (pg_name (i := 1) sc_bytes_of.nd rfl (Or.inl rfl) (hf := Or.inr (by rfl)))) (fun _ _ _ _ _ => pts_nil) (fun _ _ _ _ _ => (pe_callB call_ord (by rfl) (b_ord c) (by decide +kernel) (pa_cons (pv 1) pa_nil)))))), ?_⟩
  obtain ⟨z, w, rfl, hw, hz, k⟩ := h
  refine ⟨_, rfl, z, rfl, fun D hD => ?_⟩
  refine lcR walk_str RV0 (fun i => (w.take i).map nv) rv0_mono hD rfl (fun _ _ => trivial) (fun i x H1 H2 hi p y => ?_) (fun H' vs s hd q => ?_)
  · obtain ⟨rfl, ch, hc, rfl⟩ := y
    have hw' : w[i]? = some ch := by rw [← hw, ← hc]; simp
    refine ⟨rfl, _, rfl, ⟨#[ch]⟩, rfl, rfl, ?_⟩
    refine p.yes rv0_mono (Same.refl _) (e := nv ch) (by rw [take_succ hw', List.map_append]; rfl) rfl ?_
    rw [List.length_map, List.length_take]
    omega
  · refine k D H' s hD ?_
    rw [rv0_eq q] at hd
    show H' D = _
    rw [hd, List.take_of_length_le (by rw [← hw]; simp)]
abbrev N_lines_of : List Str := ["text", "found", "start", "place", "byte"]
theorem sc_lines_of : FnScope N_lines_of ["text"] (defScope s_lines_of) := ⟨rfl, rfl, rfl, by decide +kernel, rfl, by decide +kernel, by decide +kernel⟩
theorem ok_lines_of (c : Ctx K mg) : OkF P w K mg base (L2.CX P w) 1 "lines_of" ["text"] (spLines) := by
  refine okF (f_lines_of c) (g_lines_of c) sc_lines_of (fun _ _ _ _ _ _ us hl => match us, hl with | [_], _ => rfl) (fun vs H Q E h => by obtain ⟨a, t, rfl, ha, hz, k⟩ := h; rfl) fun cdv A outer s H vs Q E hr h => ⟨_, (pss_cons (ps_set (i := 1) sc_lines_of.nd rfl (Or.inl rfl) (pe_lst pa_nil))
      (pss_cons (ps_set (i := 2) sc_lines_of.nd rfl (Or.inl rfl) pe_int)
      (pss_cons (ps_for PassesOwn.leaving rfl (pi_enum (by rfl) (b_enumerate c) (pa_cons (pv 0) pa_nil)) (pg_tup rfl (pgs_cons (pg_name (i := 3) sc_lines_of.nd rfl (Or.inl rfl)) (pgs_cons (pg_name (i := 4) sc_lines_of.nd rfl (Or.inl rfl)) pgs_nil))) (pss_one (ps_if (pt_cmpR op_eq (pv 4) (pgi (i_LINE_END c)) (nomark _)) (pss_cons (ps_expr (pe_bm PySem.F.plainAttrs_list PySem.F.slot_list_append PySem.F.type_list_append mt_append (pv 1) (pa_cons (pe_tup (pa_cons (pv 2) (pa_cons (pv 3) pa_nil))) pa_nil)))
      (pss_one (ps_set (i := 2) sc_lines_of.nd rfl (Or.inl rfl) (pe_op op_add (pv 3) pe_int)))) pss_nil)))
      (pss_cons (ps_expr (pe_bm PySem.F.plainAttrs_list PySem.F.slot_list_append PySem.F.type_list_append mt_append (pv 1) (pa_cons (pe_tup (pa_cons (pv 2) (pa_cons (pe_callB (lenK (K := K) rfl) (by rfl) (b_len c) boot_len (pa_cons (pv 0) pa_nil)) pa_nil))) pa_nil)))
      (pss_one (ps_ret (pv 1))))))), ?_⟩
  obtain ⟨a, t, rfl, ha, hz, k⟩ := h
  refine ⟨Nat.zero_le _, fun f hf => ?_⟩
  have hs0 : Same H (upd H f (.lst [])) := Same.new hf
  refine ⟨_, rfl, a, _, rfl, SqL.of (hs0 _ _ ha), for_it walk_enum (fun i σ H' => ∃ (st : Nat) (x y : Option V) (acc : List (Nat × Nat)), σ = [some (.ref a), some (.ref f), some (nv st), x, y] ∧ AcAt RP0 H f acc H' ∧ acc.length ≤ i ∧ acc ++ linesP st i (t.drop i) = linesP 0 0 t)
    ⟨0, none, none, [], rfl, AcAt.start hf, Nat.le_refl _, rfl⟩ (fun i σ H' _ ⟨_, _, _, _, _, p, _⟩ => SqL.of (p.same0 _ _ ha)) ?_ ?_⟩
  · rintro i v σ H1 H2 hi ⟨st, x0, y0, acc, rfl, p, hac, hl⟩ ⟨T, x, y, rfl, hT, rfl, hx, hy⟩
    rw [List.length_map] at hi
    obtain rfl : x = nv i := (Option.some.inj hx).symm
    obtain ⟨n, hn, rfl⟩ := map_at hy
    rw [drop_at hn] at hl
    have p2 : AcAt RP0 H f acc (upd H1 T (.tup [nv i, nv n])) := p.grow rp0_mono (Same.new hT)
    refine ⟨T, _, rfl, SqT.of upd_same, rfl, _, _, rfl, _, _, rfl, rfl, _, rfl, rfl, _, rfl, ?_⟩
    by_cases c10 : n = 10
    · subst c10
      rw [lines_10] at hl
      refine ite2 (fun _ => ?_) (fun q => absurd (decide_eq_true rfl) q)
      obtain ⟨vs, hv, hvl⟩ := p2.lst
      refine ⟨_, rfl, .inl ⟨rfl, _, SqL.of hv⟩, _, rfl, _, rfl, by show 2 ≤ sizeLine; decide, fun u hu => ?_⟩
      have p3 := p2.grow rp0_mono (Same.new (o := .tup [nv st, nv i]) hu)
      have hv3 := Same.new (o := .tup [nv st, nv i]) hu _ _ hv
      refine ⟨f, vs, _, rfl, rfl, hv3, by rw [sizeLine_eq]; omega, _, rfl, _, _, rfl, rfl, ?_⟩
      refine ⟨i + 1, _, _, acc ++ [(st, i)], rfl, p3.add rp0_mono hv3 ⟨u, rfl, drp_at upd_same (by simp; exact (Same.ne (Same.refl _) hv hu).symm)⟩, by simp; omega, ?_⟩
      rw [List.append_assoc]
      exact hl
    · rw [lines_ne c10] at hl
      refine ite2 (fun q => absurd (nv_inj (of_decide_eq_true q)) c10) (fun _ => ?_)
      exact ⟨st, _, _, acc, rfl, p2, by omega, hl⟩
  · rintro σ H1 ⟨st, x0, y0, acc, rfl, p, hac, hl⟩
    rw [List.length_map] at hl hac
    rw [List.drop_of_length_le (Nat.le_refl _)] at hl
    obtain ⟨vs, hv, hvl⟩ := p.lst
    refine ⟨_, rfl, .inl ⟨rfl, _, SqL.of hv⟩, _, rfl, _, rfl, a, _, rfl, .inl (SqL.of (p.same0 _ _ ha)), by show 2 ≤ sizeLine; decide, fun u hu => ?_⟩
    have p3 := p.grow rp0_mono (Same.new (o := .tup [nv st, .int (t.map nv).length]) hu)
    have hv3 := Same.new (o := .tup [nv st, .int (t.map nv).length]) hu _ _ hv
    refine ⟨f, vs, _, rfl, rfl, hv3, by rw [sizeLine_eq]; omega, _, rfl, ?_⟩
    have p4 := p3.add rp0_mono hv3 (y := .ref u) (e := (st, t.length)) ⟨u, rfl, drp_at (by rw [upd_same, List.length_map]; rfl) (by simp; exact (Same.ne (Same.refl _) hv hu).symm)⟩
    obtain ⟨ws, hw, hp⟩ := p4.done rp0_mono
    refine k f _ ws p4.same0 hf hw ?_
    rw [← hl]
    exact hp
end

end VD
namespace VD
open PySem PySem.Spec PyProof.Rows L2
section
variable {P : Program} {w : World} {K : PySem.W.Frag} {mg : Str → Option Value} {base : Heap}
theorem toN_sub (e s : Nat) : ((e : Int) - (s : Int)).toNat = e - s := by omega
abbrev N_token_end : List Str := ["text", "start", "end", "place"]
theorem sc_token_end : FnScope N_token_end ["text", "start", "end"] (defScope s_token_end) := ⟨rfl, rfl, rfl, by decide +kernel, rfl, by decide +kernel, by decide +kernel⟩
theorem ok_token_end (c : Ctx K mg) : OkF P w K mg base (L2.CX P w) 1 "token_end" ["text", "start", "end"] (spTokEnd) := by
  refine okF (f_token_end c) (g_token_end c) sc_token_end (fun _ _ _ _ _ _ us hl => match us, hl with | [_, _, _], _ => rfl) (fun vs H Q E h => by obtain ⟨a, t, s0, e0, rfl, ha, h1, h2, hz, k⟩ := h; rfl) fun cdv A outer s H vs Q E hr h => ⟨_, (pss_cons (ps_for PassesOwn.leaving rfl (pi_range2 (by rfl) (b_range c) (pa_cons (pv 1) (pa_cons (pv 2) pa_nil))) (pg_name (i := 3) sc_token_end.nd rfl (Or.inl rfl)) (pss_one (ps_if (pt_cmpR op_eq (pe_ix (ix_listK (K := K) rfl) (pv 0) (pv 3) (fun _ _ => rfl)) (pgi (i_SPACE c)) (nomark _)) (pss_one (ps_ret (pv 3))) pss_nil)))
      (pss_one (ps_ret (pv 2)))), ?_⟩
  obtain ⟨a, t, s0, e0, rfl, ha, h1, h2, hz, k⟩ := h
  refine ⟨_, rfl, _, rfl, _, _, rfl, ⟨by omega, by omega, by omega, by omega⟩, for_range (lo := (s0 : Int)) (n := ((e0 : Int) - s0).toNat) (fun i σ H' => ∃ x, σ = [some (.ref a), some (nv s0), some (nv e0), x] ∧ H' = H ∧ ∀ j, j < i → (cut t s0 e0)[j]? ≠ some 32) ⟨none, rfl, rfl, fun _ h => absurd h (Nat.not_lt_zero _)⟩ ?_ ?_⟩
  · rintro i σ H' hi ⟨x, rfl, rfl, hn⟩
    rw [toN_sub] at hi
    have hl : s0 + i < t.length := by omega
    have ht : t[s0 + i]? = some (t[s0 + i]'hl) := List.getElem?_eq_getElem hl
    generalize t[s0 + i]'hl = n at ht
    refine ⟨_, rfl, _, rfl, a, _, ((s0 + i : Nat) : Int), nv n, rfl, by show V.int _ = V.int _; congr 1, SqL.of ha, atI_nat (by rw [List.getElem?_map, ht]; rfl), rfl, _, rfl, ite2 (fun q => ?_) (fun q => ?_)⟩
    · have e : n = 32 := nv_inj (of_decide_eq_true q)
      subst e
      refine ⟨_, rfl, ?_⟩
      rw [wl_at hn (by rw [cut_at (by omega)]; exact ht)] at k
      exact k
    · refine ⟨_, rfl, rfl, fun j hj => ?_⟩
      by_cases ej : j = i
      · subst ej
        rw [cut_at (by omega), ht]
        intro z
        cases z
        exact q (decide_eq_true rfl)
      · exact hn j (by omega)
  · rintro σ H' ⟨x, rfl, rfl, hn⟩
    rw [toN_sub] at hn
    refine ⟨_, rfl, ?_⟩
    rw [wl_all (by rw [cut_len h2]; exact hn), cut_len h2, show s0 + (e0 - s0) = e0 by omega] at k
    exact k
abbrev N_tokens_of : List Str := ["text", "start", "end", "found", "place", "behind"]
theorem sc_tokens_of : FnScope N_tokens_of ["text", "start", "end"] (defScope s_tokens_of) := ⟨rfl, rfl, rfl, by decide +kernel, rfl, by decide +kernel, by decide +kernel⟩
theorem ok_tokens_of (c : Ctx K mg) : OkF P w K mg base (L2.CX P w) 2 "tokens_of" ["text", "start", "end"] (spTokens) := by
  refine okF (f_tokens_of c) (g_tokens_of c) sc_tokens_of (fun _ _ _ _ _ _ us hl => match us, hl with | [_, _, _], _ => rfl) (fun vs H Q E h => by obtain ⟨a, t, s0, e0, rfl, ha, h1, h2, hz, k⟩ := h; rfl) fun cdv A outer s H vs Q E hr h => ⟨_, (pss_cons (ps_set (i := 3) sc_tokens_of.nd rfl (Or.inl rfl) (pe_lst pa_nil))
      (pss_cons (ps_set (i := 4) sc_tokens_of.nd rfl (Or.inl rfl) (pv 1))
      (pss_cons (ps_while PassesOwn.leaving (pt_cmpR op_lt (pv 4) (pv 2) (nomark _)) (pss_one (ps_if (pt_cmpR op_eq (pe_ix (ix_listK (K := K) rfl) (pv 0) (pv 4) (fun _ _ => rfl)) (pgi (i_SPACE c)) (nomark _)) (pss_one (ps_aug (i := 4) sc_tokens_of.nd rfl (Or.inl rfl) pe_int ip_add)) (pss_cons (ps_set (i := 5) sc_tokens_of.nd rfl (Or.inl rfl) (pcall (E := E0) (ok_token_end c) (hr.mono (by decide)) passL (pa_cons (pv 0) (pa_cons (pv 4) (pa_cons (pv 2) pa_nil)))))
      (pss_cons (ps_expr (pe_bm PySem.F.plainAttrs_list PySem.F.slot_list_append PySem.F.type_list_append mt_append (pv 3) (pa_cons (pe_tup (pa_cons (pv 4) (pa_cons (pe_slice (sl_listK (K := K) rfl) (pv 0) (po_some (pv 4)) (po_some (pv 5))) pa_nil))) pa_nil)))
      (pss_one (ps_set (i := 4) sc_tokens_of.nd rfl (Or.inl rfl) (pv 5))))))))
      (pss_one (ps_ret (pv 3)))))), ?_⟩
  obtain ⟨a, t, s0, e0, rfl, ha, h1, h2, hz, k⟩ := h
  refine ⟨Nat.zero_le _, fun f hf => ?_⟩
  refine ⟨_, rfl, ?_⟩
  refine while_by (fun σ H' => ∃ (p : Nat) (x : Option V) (acc : List (Nat × List Nat)), σ = [some (.ref a), some (nv s0), some (nv e0), some (.ref f), some (nv p), x] ∧ AcAt RT0 H f acc H' ∧ acc.length ≤ p ∧ p ≤ e0 ∧ acc ++ toks p (cut t p e0) = toks s0 (cut t s0 e0))
    (fun σ _ => match σ with | [_, _, _, _, some (.int z), _] => e0 - z.toNat | _ => 0) ⟨s0, none, [], rfl, AcAt.start hf, Nat.zero_le _, h1, rfl⟩ ?_ ?_
  · rintro σ H' ⟨p, x, acc, rfl, hp, hac, hle, hl⟩
    refine ⟨_, rfl, _, rfl, _, _, rfl, rfl, _, rfl, ite2 (fun q => ?_) (fun q => ?_)⟩
    · have hlt : p < e0 := by have := of_decide_eq_true q; omega
      have hpl : p < t.length := by omega
      have ht : t[p]? = some (t[p]'hpl) := List.getElem?_eq_getElem hpl
      generalize t[p]'hpl = n at ht
      have ec : cut t p e0 = n :: cut t (p + 1) e0 := by
        show (t.drop p).take (e0 - p) = _
        rw [drop_at ht, show e0 - p = e0 - (p + 1) + 1 by omega]
        rfl
      have ha' := hp.same0 _ _ ha
      refine ⟨_, rfl, _, rfl, a, _, (p : Int), nv n, rfl, rfl, SqL.of ha', atI_nat (by rw [List.getElem?_map, ht]; rfl), rfl, _, rfl, ite2 (fun q => ?_) (fun q => ?_)⟩
      · have e : n = 32 := nv_inj (of_decide_eq_true q)
        subst e
        refine ⟨_, rfl, _, _, rfl, rfl, ⟨p + 1, x, acc, rfl, hp, by omega, hlt, ?_⟩, ?_⟩
        · rw [← hl, ec, toks_sp]
        · show e0 - ((p : Int) + 1).toNat < e0 - (p : Int).toNat
          omega
      · have e : n ≠ 32 := fun z => q (by subst z; exact decide_eq_true rfl)
        have wpos : 0 < wl (cut t p e0) := by
          rw [ec]
          unfold wl
          rw [if_neg e]
          omega
        have wle := wl_le (cut t p e0)
        rw [cut_len h2] at wle
        refine ⟨_, rfl, _, rfl, _, rfl, a, t, p, e0, rfl, ha', hle, h2, hz, ?_⟩
        obtain ⟨vs, hv, hvl⟩ := hp.lst
        refine ⟨_, rfl, .inl ⟨rfl, _, SqL.of hv⟩, _, rfl, _, rfl, _, rfl, _, rfl, _, rfl, _, rfl, a, _, rfl, SqL.of ha', fun b hb => ?_⟩
        rw [show cutV (t.map nv) (some (p : Int)) (some ((p + wl (cut t p e0) : Nat) : Int)) = ((cut t p e0).take (wl (cut t p e0))).map nv by
          rw [cutV_nat (by omega) (by rw [List.length_map]; omega), map_cut]
          congr 1
          rw [show p + wl (cut t p e0) - p = wl (cut t p e0) by omega]
          generalize wl (cut t p e0) = L at wle
          show _ = ((t.drop p).take (e0 - p)).take L
          rw [List.take_take, Nat.min_eq_left wle]]
        generalize hW : (cut t p e0).take (wl (cut t p e0)) = W
        have s1 := Same.new (o := .lst (W.map nv)) hb
        refine ⟨by show 2 ≤ sizeLine; decide, fun u hu => ?_⟩
        have s2 := s1.trans (Same.new (o := .tup [nv p, .ref b]) hu)
        have hv2 := s2 _ _ hv
        refine ⟨f, vs, _, rfl, rfl, hv2, by rw [sizeLine_eq]; omega, _, rfl, ⟨p + wl (cut t p e0), _, acc ++ [(p, W)], rfl, (hp.grow rt0_mono s2).add rt0_mono hv2 ?_, by rw [List.length_append]; show acc.length + 1 ≤ _; omega, by omega, ?_⟩, ?_⟩
        · have nf : u ≠ f := (Same.ne s1 hv hu).symm
          have nb : b ≠ f := (ne_of_none hv hb).symm
          exact ⟨u, b, rfl, drp_at upd_same (by simpa using nf), drp_at ((upd_ne (ne_of_none upd_same hu)).trans upd_same) (by simpa using nb)⟩
        · rw [← hl, List.append_assoc, ec, toks_w _ _ _ e, ← ec, hW]
          rw [show cut t (p + wl (cut t p e0)) e0 = (cut t p e0).drop (wl (cut t p e0)) by
            generalize wl (cut t p e0) = L at wle
            show cut t (p + L) e0 = ((t.drop p).take (e0 - p)).drop L
            rw [List.drop_take, List.drop_drop, show e0 - p - L = e0 - (p + L) by omega]]
          rfl
        · show e0 - ((p + wl (cut t p e0) : Nat) : Int).toNat < e0 - (p : Int).toNat
          omega
    · have hge : p = e0 := by
        have : ¬ ((p : Int) < e0) := fun z => q (decide_eq_true z)
        omega
      subst hge
      obtain ⟨ws, hw, hps⟩ := hp.done rt0_mono
      refine ⟨_, rfl, k f _ ws hp.same0 hf hw ?_⟩
      rw [← hl, show cut t p p = [] by show (t.drop p).take (p - p) = []; rw [Nat.sub_self, List.take_zero], toks_nil, List.append_nil]
      exact hps
  · rintro σ H' R R' m ⟨v, x1, v2, x2, i, j, x3, x4, b, x5, x6⟩
    exact ⟨v, x1, v2, x2, i, j, x3, x4, b, x5, m _ _ x6⟩
end

end VD
namespace VD
open PySem PySem.Spec PyProof.Rows L2
def spWords : Sp := fun vs H Q _ => ∃ (a : Addr) (t : List Nat) (s e : Nat), vs = [.ref a, nv s, nv e] ∧ LN H a t ∧ s ≤ e ∧ e ≤ t.length ∧ t.length ≤ 100000 ∧ RetR RW0 Q H ((toks s (cut t s e)).map (·.2))
/-- a truth value is handed back of a number -/
def spByteB (f : Nat → Bool) : Sp := fun vs H Q _ => ∃ n : Nat, vs = [nv n] ∧ Q (.bl (f n)) H
/-- .. of a word -/
def spWordB (f : List Nat → Bool) : Sp := fun vs H Q _ => ∃ (a : Addr) (wd : List Nat), vs = [.ref a] ∧ LN H a wd ∧ wd.length ≤ 100000 ∧ RetV Q H (.bl (f wd))
theorem toks_len : ∀ (l : List Nat) (p : Nat), (toks p l).length ≤ l.length
  | [], _ => Nat.le_refl _
  | c :: r, p => by
    by_cases e : c = 32
    · subst e
      rw [toks_sp]
      have := toks_len r (p + 1)
      simp only [List.length_cons]
      omega
    · rw [toks_w r p c e]
      have hp : 0 < wl (c :: r) := by
        unfold wl
        rw [if_neg e]
        omega
      have hle := wl_le (c :: r)
      have := toks_len ((c :: r).drop (wl (c :: r))) (p + wl (c :: r))
      simp only [List.length_cons, List.length_drop] at this ⊢
      simp only [List.length_cons] at hle
      omega
  termination_by l => l.length
  decreasing_by
    all_goals simp only [List.length_cons, List.length_drop]
    all_goals omega
def isName (w : List Nat) : Bool := Vbndaa.isIdentifier w && !Vbndaa.reservedWords.contains w
def isNum (w : List Nat) : Bool := (Vbndaa.natOfToken 3 w).isSome
theorem any_dw (ws : List (List Nat)) (w : List Nat) : ((ws.map dw).any fun z => PyData.eqv z (dw w)) = ws.contains w := by
  induction ws with
  | nil => rfl
  | cons x r ih =>
    rw [List.map_cons, List.any_cons, ih, eqv_dw, List.contains_cons]
    congr 1
    rw [Bool.eq_iff_iff, beq_iff_eq, beq_iff_eq]
    exact eq_comm
theorem name_eq (w : List Nat) : isName w = ((decide (1 ≤ w.length) && decide (w.length ≤ 12)) && ((w.head?.any Vbndaa.isLowercase) && ((w.all fun d => Vbndaa.isLowercase d || Vbndaa.isDigit d) && !Vbndaa.reservedWords.contains w))) := by
  cases w with
  | nil => rfl
  | cons c r =>
    unfold isName Vbndaa.isIdentifier
    simp only [List.length_cons, List.head?_cons, Option.any_some, List.all_cons]
    have e1 : decide (1 ≤ r.length + 1) = true := decide_eq_true (by omega)
    have e2 : decide (r.length + 1 ≤ 12) = decide (r.length ≤ 11) := by
      rw [Bool.eq_iff_iff, decide_eq_true_iff, decide_eq_true_iff]
      omega
    rw [e1, e2]
    cases Vbndaa.isLowercase c <;> cases decide (r.length ≤ 11) <;> simp
theorem num_eq (w : List Nat) : isNum w = (((decide (1 ≤ w.length) && decide (w.length ≤ 3)) && w.all Vbndaa.isDigit) && (decide (w.length = 1) || !decide (w.head? = some 48))) := by
  unfold isNum Vbndaa.natOfToken
  cases w with
  | nil => rfl
  | cons c r =>
    have e1 : decide (1 ≤ (c :: r).length) = true := decide_eq_true (by simp)
    rw [e1]
    by_cases h1 : 3 < (c :: r).length
    · rw [if_pos (.inr (.inl h1)), decide_eq_false (by omega)]
      rfl
    · by_cases h2 : (c :: r).all Vbndaa.isDigit = false
      · rw [if_pos (.inr (.inr (.inl h2))), h2]
        simp
      · by_cases h3 : 1 < (c :: r).length ∧ (c :: r).head? = some 48
        · rw [if_pos (.inr (.inr (.inr h3))), decide_eq_false (show ¬ (c :: r).length = 1 by omega), decide_eq_true h3.2]
          simp
        · rw [if_neg (by simp only [not_or]; exact ⟨by simp, h1, h2, h3⟩), decide_eq_true (show (c :: r).length ≤ 3 by omega)]
          have h4 : (c :: r).all Vbndaa.isDigit = true := by
            cases h : (c :: r).all Vbndaa.isDigit with
            | true => rfl
            | false => exact absurd h h2
          rw [h4]
          by_cases h5 : (c :: r).length = 1
          · rw [decide_eq_true h5]
            rfl
          · rw [decide_eq_false h5, decide_eq_false (fun z => h3 ⟨by simp only [List.length_cons] at h5 ⊢; omega, z⟩)]
            rfl
section
variable {P : Program} {w : World} {K : PySem.W.Frag} {mg : Str → Option Value} {base : Heap}
abbrev N_words_of : List Str := ["text", "start", "end", "place", "word"]
theorem sc_words_of : FnScope N_words_of ["text", "start", "end"] (defScope s_words_of) := ⟨rfl, rfl, rfl, by decide +kernel, rfl, by decide +kernel, by decide +kernel⟩
theorem ok_words_of (c : Ctx K mg) : OkF P w K mg base (L2.CX P w) 3 "words_of" ["text", "start", "end"] (spWords) := by
  refine okF (f_words_of c) (g_words_of c) sc_words_of (fun _ _ _ _ _ _ us hl => match us, hl with | [_, _, _], _ => rfl) (fun vs H Q E h => by obtain ⟨a, t, s0, e0, rfl, ha, h1, h2, hz, k⟩ := h; rfl) fun cdv A outer s H vs Q E hr h => ⟨_, (pss_one (ps_ret (pe_lc (g := gTup K 2 (gCons (gName 3) (gCons (gName 4) gNil))) (own := [("place", 3), ("word", 4)]) rfl sc_words_of.nd (pi_list (pcall (E := E0) (ok_tokens_of c) (hr.mono (by decide)) passL (pa_cons (pv 0) (pa_cons (pv 1) (pa_cons (pv 2) pa_nil))))) (blkOk_by (own := [("place", 3), ("word", 4)]) (N := N_words_of) (sc := defScope s_words_of) (by decide +kernel)) (fun _ _ _ _ _ => (pg_tup rfl (pgs_cons (pg_name (i := 3) sc_words_of.nd rfl (Or.inl rfl) (hf := Or.inr (by rfl))) (pgs_cons (pg_name (i := 4) sc_words_of.nd rfl (Or.inl rfl) (hf := Or.inr (by rfl))) pgs_nil)))) (fun _ _ _ _ _ => pts_nil) (fun _ _ _ _ _ => (pv 4))))), ?_⟩
  obtain ⟨a, t, s0, e0, rfl, ha, h1, h2, hz, k⟩ := h
  refine ⟨_, rfl, _, rfl, _, rfl, a, t, s0, e0, rfl, ha, h1, h2, hz, fun p H1 vs s1 hp hv pr => ?_⟩
  refine ⟨p, rfl, ⟨_, SqL.of hv⟩, fun D hD => ?_⟩
  refine lcR walk_list RW0 (fun i => ((toks s0 (cut t s0 e0)).take i).map (·.2)) rw0_mono hD rfl (fun H' s' => SqL.of (s' _ _ hv)) (fun i x H2 H3 hi q y => ?_) (fun H' us s' hd q => ?_)
  · obtain ⟨rfl, hx⟩ := y
    obtain ⟨tk, htk, T, b, rfl, hT, hb⟩ := pr_get pr hx
    have s2 := q.2.1
    have hlen := toks_len (cut t s0 e0) s0
    rw [cut_len h2] at hlen
    refine ⟨T, _, rfl, SqT.of (s2 _ _ hT), rfl, _, _, rfl, _, _, rfl, rfl, rfl, _, rfl, ?_⟩
    refine q.yes rw0_mono (Same.refl _) (e := tk.2) (by rw [take_succ htk, List.map_append]; rfl) ⟨b, rfl, drp_at (s2 _ _ hb) (by simpa using ne_of_none hb hD)⟩ ?_
    rw [List.length_map, List.length_take]
    omega
  · have hl : vs.length = (toks s0 (cut t s0 e0)).length := pr.length
    rw [List.take_of_length_le (by omega)] at q
    exact k D H' us (s1.trans s') (s1.old hD) hd q
abbrev N_is_digit : List Str := ["byte"]
theorem sc_is_digit : FnScope N_is_digit ["byte"] (defScope s_is_digit) := ⟨rfl, rfl, rfl, by decide +kernel, rfl, by decide +kernel, by decide +kernel⟩
theorem ok_is_digit (c : Ctx K mg) : OkF P w K mg base (L2.CX P w) 1 "is_digit" ["byte"] ((spByteB Vbndaa.isDigit)) := by
  refine okF (f_is_digit c) (g_is_digit c) sc_is_digit (fun _ _ _ _ _ _ us hl => match us, hl with | [_], _ => rfl) (fun vs H Q E h => by obtain ⟨n, rfl, k⟩ := h; rfl) fun cdv A outer s H vs Q E hr h => ⟨_, (pss_one (ps_ret (pe_chain op_le op_le (pgi (i_FIRST_DIGIT c)) (pv 0) (pgi (i_LAST_DIGIT c))))), ?_⟩
  obtain ⟨n, rfl, k⟩ := h
  refine ⟨_, rfl, r_le2 ?_⟩
  have e : (decide ((48 : Int) ≤ n) && decide ((n : Int) ≤ 57)) = Vbndaa.isDigit n := by
    unfold Vbndaa.isDigit
    congr 1 <;> (rw [Bool.eq_iff_iff, decide_eq_true_iff, decide_eq_true_iff]; omega)
  rw [e]
  exact k
abbrev N_is_letter : List Str := ["byte"]
theorem sc_is_letter : FnScope N_is_letter ["byte"] (defScope s_is_letter) := ⟨rfl, rfl, rfl, by decide +kernel, rfl, by decide +kernel, by decide +kernel⟩
theorem ok_is_letter (c : Ctx K mg) : OkF P w K mg base (L2.CX P w) 1 "is_letter" ["byte"] ((spByteB Vbndaa.isLowercase)) := by
  refine okF (f_is_letter c) (g_is_letter c) sc_is_letter (fun _ _ _ _ _ _ us hl => match us, hl with | [_], _ => rfl) (fun vs H Q E h => by obtain ⟨n, rfl, k⟩ := h; rfl) fun cdv A outer s H vs Q E hr h => ⟨_, (pss_one (ps_ret (pe_chain op_le op_le (pgi (i_FIRST_LETTER c)) (pv 0) (pgi (i_LAST_LETTER c))))), ?_⟩
  obtain ⟨n, rfl, k⟩ := h
  refine ⟨_, rfl, r_le2 ?_⟩
  have e : (decide ((97 : Int) ≤ n) && decide ((n : Int) ≤ 122)) = Vbndaa.isLowercase n := by
    unfold Vbndaa.isLowercase
    congr 1 <;> (rw [Bool.eq_iff_iff, decide_eq_true_iff, decide_eq_true_iff]; omega)
  rw [e]
  exact k
abbrev N_is_reserved : List Str := ["word", "text"]
theorem sc_is_reserved : FnScope N_is_reserved ["word"] (defScope s_is_reserved) := ⟨rfl, rfl, rfl, by decide +kernel, rfl, by decide +kernel, by decide +kernel⟩
theorem ok_is_reserved (c : Ctx K mg) : OkF P w K mg base (L2.CX P w) 2 "is_reserved" ["word"] ((spWordB fun wd => Vbndaa.reservedWords.contains wd)) := by
  refine okF (f_is_reserved c) (g_is_reserved c) sc_is_reserved (fun _ _ _ _ _ _ us hl => match us, hl with | [_], _ => rfl) (fun vs H Q E h => by obtain ⟨a, wd, rfl, ha, hz, k⟩ := h; rfl) fun cdv A outer s H vs Q E hr h => ⟨_, (pss_one (ps_ret (pe_cmpR (inDK (K := K) rfl (hu65 hr)) (pv 0) (pe_lc (g := gName 1) (own := [("text", 1)]) rfl sc_is_reserved.nd (pi_tup (pgr (g_RESERVED c))) (blkOk_by (own := [("text", 1)]) (N := N_is_reserved) (sc := defScope s_is_reserved) (by decide +kernel)) (fun _ _ _ _ _ => (pg_name (i := 1) sc_is_reserved.nd rfl (Or.inl rfl) (hf := Or.inr (by rfl)))) (fun _ _ _ _ _ => pts_nil) (fun _ _ _ _ _ => (pcall (E := E0) (ok_bytes_of c) (hr.mono (by decide)) passL (pa_cons (pv 1) pa_nil)))) (by rfl)))), ?_⟩
  obtain ⟨a, wd, rfl, ha, hz, k⟩ := h
  refine ⟨_, rfl, t_RESERVED, rfl, ⟨_, tp_142 c H⟩, fun D hD => ?_⟩
  refine lcR walk_tup RW0 (fun i => Vbndaa.reservedWords.take i) rw0_mono hD rfl (fun H' _ => tp_142 c H') (fun i x H2 H3 hi q y => ?_) (fun H' us s' hd q => ?_)
  · obtain ⟨rfl, hx⟩ := y
    obtain ⟨z, rfl, wz, hw, hzl⟩ : ∃ z : Str, x = .str z ∧ ∃ wz, Vbndaa.reservedWords[i]? = some wz ∧ z.cps.toList = wz ∧ wz.length ≤ 100000 := by
      match i, hx with
      | 0, hx => cases hx; exact ⟨_, rfl, _, rfl, by decide +kernel, by decide +kernel⟩
      | 1, hx => cases hx; exact ⟨_, rfl, _, rfl, by decide +kernel, by decide +kernel⟩
      | 2, hx => cases hx; exact ⟨_, rfl, _, rfl, by decide +kernel, by decide +kernel⟩
      | 3, hx => cases hx; exact ⟨_, rfl, _, rfl, by decide +kernel, by decide +kernel⟩
      | 4, hx => cases hx; exact ⟨_, rfl, _, rfl, by decide +kernel, by decide +kernel⟩
      | n + 5, hx => simp at hx
    refine ⟨rfl, _, rfl, z, wz, rfl, hzl.1, hzl.2, fun p H' s1 hp hv => ?_⟩
    exact q.yes rw0_mono s1 (take_succ hw) ⟨p, rfl, drp_at hv (by simpa using fun e => by subst e; obtain ⟨_, _, vs, h3, _⟩ := q; rw [hp] at h3; cases h3)⟩ (by rw [List.length_take]; have : Vbndaa.reservedWords.length = 5 := rfl; omega)
  · refine ⟨dw wd, Vbndaa.reservedWords.map dw, dp_w (s' _ _ ha), dp_ws (lw_of hd q), sh_dw _, sh_dws _, ?_⟩
    rw [any_dw]
    exact k H' s'
end

end VD
namespace VD
open PySem PySem.Spec PyProof.Rows L2
section
variable {P : Program} {w : World} {K : PySem.W.Frag} {mg : Str → Option Value} {base : Heap}
theorem all_bl (f : Nat → Bool) (l : List Nat) : ((l.map fun n => f n).all id) = l.all f := by
  induction l with
  | nil => rfl
  | cons n r ih => rw [List.map_cons, List.all_cons, List.all_cons, ih]; rfl
theorem bl_map (f : Nat → Bool) (l : List Nat) : l.map (fun n => V.bl (f n)) = (l.map f).map V.bl := by
  rw [List.map_map]
  rfl
abbrev N_is_name : List Str := ["word", "byte"]
theorem sc_is_name : FnScope N_is_name ["word"] (defScope s_is_name) := ⟨rfl, rfl, rfl, by decide +kernel, rfl, by decide +kernel, by decide +kernel⟩
theorem ok_is_name (c : Ctx K mg) : OkF P w K mg base (L2.CX P w) 3 "is_name" ["word"] ((spWordB isName)) := by
  refine okF (f_is_name c) (g_is_name c) sc_is_name (fun _ _ _ _ _ _ us hl => match us, hl with | [_], _ => rfl) (fun vs H Q E h => by obtain ⟨a, wd, rfl, ha, hz, k⟩ := h; rfl) fun cdv A outer s H vs Q E hr h => ⟨_, (pss_cons (ps_if (PW.pt (pw_or (pt_not (pt_chain op_le op_le pe_int (pe_callB (lenK (K := K) rfl) (by rfl) (b_len c) boot_len (pa_cons (pv 0) pa_nil)) (pgi (i_LONGEST_NAME c)))) (pw_or1 (pt_not (pt_val (pcall (E := E0) (ok_is_letter c) (hr.mono (by decide)) passL (pa_cons (pe_ix (ix_listK (K := K) rfl) (pv 0) pe_int (fun _ _ => rfl)) pa_nil))))))) (pss_one (ps_ret pe_bl)) pss_nil)
      (pss_one (ps_ret (pe_and (pe_callB (allK (K := K) rfl rfl) (by rfl) (b_all c) (by decide +kernel) (pa_cons (pe_lc (g := gName 1) (own := [("byte", 1)]) rfl sc_is_name.nd (pi_list (pv 0)) (blkOk_by (own := [("byte", 1)]) (N := N_is_name) (sc := defScope s_is_name) (by decide +kernel)) (fun _ _ _ _ _ => (pg_name (i := 1) sc_is_name.nd rfl (Or.inl rfl) (hf := Or.inr (by rfl)))) (fun _ _ _ _ _ => pts_nil) (fun _ _ _ _ _ => (pe_or (pcall (E := E0) (ok_is_letter c) (hr.mono (by decide)) passL (pa_cons (pv 1) pa_nil)) (pe_one (pcall (E := E0) (ok_is_digit c) (hr.mono (by decide)) passL (pa_cons (pv 1) pa_nil)))))) pa_nil)) (pe_one (pe_not (pcall (E := E0) (ok_is_reserved c) (hr.mono (by decide)) passL (pa_cons (pv 0) pa_nil)))))))), ?_⟩
  obtain ⟨a, wd, rfl, ha, hz, k⟩ := h
  have hk : ∀ H', Same H H' → Q (.bl ((decide (1 ≤ wd.length) && decide (wd.length ≤ 12)) && ((wd.head?.any Vbndaa.isLowercase) && ((wd.all fun d => Vbndaa.isLowercase d || Vbndaa.isDigit d) && !Vbndaa.reservedWords.contains wd)))) H' := fun H' s' => by
    rw [← name_eq]
    exact k H' s'
  refine ⟨_, rfl, a, _, rfl, .inl (SqL.of ha), _, _, rfl, rfl, _, rfl, ite2 (fun q1 => ?_) (fun q1 => ?_)⟩
  · rw [decide_eq_true_iff, List.length_map] at q1
    rw [decide_eq_true (show 1 ≤ wd.length by omega)] at hk
    refine ⟨_, _, rfl, rfl, _, rfl, ite2 (fun q2 => ?_) (fun q2 => ?_)⟩
    · rw [decide_eq_false (show ¬ wd.length ≤ 12 by rw [List.length_map] at q2; intro z; rw [decide_eq_true (show ((wd.length : Nat) : Int) ≤ 12 by omega)] at q2; cases q2)] at hk
      exact hk H (Same.refl H)
    · rw [decide_eq_true (show wd.length ≤ 12 by
        apply Classical.byContradiction
        intro z
        refine q2 ?_
        rw [List.length_map, decide_eq_false (show ¬ ((wd.length : Nat) : Int) ≤ 12 by omega)]
        rfl)] at hk
      obtain ⟨n, r, rfl⟩ : ∃ n r, wd = n :: r := by
        cases wd with
        | nil => simp at q1
        | cons n r => exact ⟨n, r, rfl⟩
      refine ⟨_, rfl, a, _, (0 : Nat), nv n, rfl, rfl, SqL.of ha, atI_nat rfl, n, rfl, _, rfl, ?_⟩
      simp only [List.head?_cons, Option.any_some] at hk
      cases hl : Vbndaa.isLowercase n with
      | false =>
        rw [hl] at hk
        exact hk H (Same.refl H)
      | true =>
        rw [hl] at hk
        refine ⟨_, rfl, a, rfl, ⟨_, SqL.of ha⟩, fun D hD => ?_⟩
        refine lcR walk_list RV0 (fun i => ((n :: r).take i).map fun d => V.bl (Vbndaa.isLowercase d || Vbndaa.isDigit d)) rv0_mono hD rfl (fun H' s' => SqL.of (s' _ _ ha)) (fun i x H2 H3 hi q y => ?_) (fun H' us s' hd q => ?_)
        · obtain ⟨rfl, hx⟩ := y
          obtain ⟨d, hd, rfl⟩ := map_at hx
          have hi' : i < (n :: r).length := by rw [List.length_map] at hi; exact hi
          refine ⟨rfl, _, rfl, d, rfl, _, rfl, ?_⟩
          have fin : ∀ b : Bool, b = (Vbndaa.isLowercase d || Vbndaa.isDigit d) → ∃ acc, H3 D = some (.lst acc) ∧ acc.length < sizeLine ∧ LcAt RV0 (fun i => ((n :: r).take i).map fun d => V.bl (Vbndaa.isLowercase d || Vbndaa.isDigit d)) H D (i + 1) (upd H3 D (.lst (acc ++ [.bl b]))) := fun b hb => by
            subst hb
            exact q.yes rv0_mono (Same.refl _) (by rw [take_succ hd, List.map_append]; rfl) rfl (by rw [List.length_map, List.length_take]; omega)
          cases h1 : Vbndaa.isLowercase d with
          | true => exact fin _ (by rw [h1]; rfl)
          | false => exact ⟨_, rfl, d, rfl, fin _ (by rw [h1]; rfl)⟩
        · rw [rv0_eq q, bl_map] at hd
          refine ⟨D, _, rfl, SqL.of hd, _, rfl, ?_⟩
          rw [all_bl, List.length_map, List.take_of_length_le (Nat.le_refl _)]
          simp only [Bool.true_and] at hk
          cases h2 : ((n :: r).all fun d => Vbndaa.isLowercase d || Vbndaa.isDigit d) with
          | false =>
            rw [h2] at hk
            exact hk H' s'
          | true =>
            rw [h2] at hk
            exact ⟨_, rfl, a, n :: r, rfl, s' _ _ ha, hz, fun H2 s2 => ⟨_, rfl, hk H2 (s'.trans s2)⟩⟩
  · rw [decide_eq_true_iff, List.length_map] at q1
    rw [decide_eq_false (show ¬ 1 ≤ wd.length by omega)] at hk
    exact ⟨_, rfl, hk H (Same.refl H)⟩
abbrev N_is_number : List Str := ["word", "byte"]
theorem sc_is_number : FnScope N_is_number ["word"] (defScope s_is_number) := ⟨rfl, rfl, rfl, by decide +kernel, rfl, by decide +kernel, by decide +kernel⟩
theorem ok_is_number (c : Ctx K mg) : OkF P w K mg base (L2.CX P w) 2 "is_number" ["word"] ((spWordB isNum)) := by
  refine okF (f_is_number c) (g_is_number c) sc_is_number (fun _ _ _ _ _ _ us hl => match us, hl with | [_], _ => rfl) (fun vs H Q E h => by obtain ⟨a, wd, rfl, ha, hz, k⟩ := h; rfl) fun cdv A outer s H vs Q E hr h => ⟨_, (pss_cons (ps_if (PW.pt (pw_or (pt_not (pt_chain op_le op_le pe_int (pe_callB (lenK (K := K) rfl) (by rfl) (b_len c) boot_len (pa_cons (pv 0) pa_nil)) (pgi (i_LONGEST_NUMBER c)))) (pw_or1 (pt_not (pt_val (pe_callB (allK (K := K) rfl rfl) (by rfl) (b_all c) (by decide +kernel) (pa_cons (pe_lc (g := gName 1) (own := [("byte", 1)]) rfl sc_is_number.nd (pi_list (pv 0)) (blkOk_by (own := [("byte", 1)]) (N := N_is_number) (sc := defScope s_is_number) (by decide +kernel)) (fun _ _ _ _ _ => (pg_name (i := 1) sc_is_number.nd rfl (Or.inl rfl) (hf := Or.inr (by rfl)))) (fun _ _ _ _ _ => pts_nil) (fun _ _ _ _ _ => (pcall (E := E0) (ok_is_digit c) (hr.mono (by decide)) passL (pa_cons (pv 1) pa_nil)))) pa_nil))))))) (pss_one (ps_ret pe_bl)) pss_nil)
      (pss_one (ps_ret (pe_or (pe_cmpR op_eq (pe_callB (lenK (K := K) rfl) (by rfl) (b_len c) boot_len (pa_cons (pv 0) pa_nil)) pe_int (nomark _)) (pe_one (pe_cmpR op_ne (pe_ix (ix_listK (K := K) rfl) (pv 0) pe_int (fun _ _ => rfl)) (pgi (i_FIRST_DIGIT c)) (nomark _))))))), ?_⟩
  obtain ⟨a, wd, rfl, ha, hz, k⟩ := h
  have hk : ∀ H', Same H H' → Q (.bl (((decide (1 ≤ wd.length) && decide (wd.length ≤ 3)) && wd.all Vbndaa.isDigit) && (decide (wd.length = 1) || !decide (wd.head? = some 48)))) H' := fun H' s' => by
    rw [← num_eq]
    exact k H' s'
  have step : 1 ≤ wd.length → wd.length ≤ 3 → ∀ D H', Same H H' → H' D = some (.lst (wd.map fun d => V.bl (Vbndaa.isDigit d))) → ((wd.map Vbndaa.isDigit).all id = false → Q (.bl false) H') ∧ ((wd.map Vbndaa.isDigit).all id = true → Q (.bl (decide (wd.length = 1) || !decide (wd.head? = some 48))) H') := fun h1 h3 D H' s' hd => by
    have hk2 := hk H' s'
    rw [decide_eq_true h1, decide_eq_true h3] at hk2
    refine ⟨fun e => ?_, fun e => ?_⟩
    · have e2 : wd.all Vbndaa.isDigit = false := by rw [← e, ← all_bl]
      rw [e2] at hk2
      exact hk2
    · have e2 : wd.all Vbndaa.isDigit = true := by rw [← e, ← all_bl]
      rw [e2] at hk2
      exact hk2
  refine ⟨_, rfl, a, _, rfl, .inl (SqL.of ha), _, _, rfl, rfl, _, rfl, ite2 (fun q1 => ?_) (fun q1 => ?_)⟩
  · rw [decide_eq_true_iff, List.length_map] at q1
    have h1 : 1 ≤ wd.length := by omega
    refine ⟨_, _, rfl, rfl, _, rfl, ite2 (fun q2 => ?_) (fun q2 => ?_)⟩
    · have hk2 := hk H (Same.refl H)
      rw [decide_eq_false (show ¬ wd.length ≤ 3 by rw [List.length_map] at q2; intro z; rw [decide_eq_true (show ((wd.length : Nat) : Int) ≤ 3 by omega)] at q2; cases q2), Bool.and_false] at hk2
      exact hk2
    · have h3 : wd.length ≤ 3 := by
        apply Classical.byContradiction
        intro z
        refine q2 ?_
        rw [List.length_map, decide_eq_false (show ¬ ((wd.length : Nat) : Int) ≤ 3 by omega)]
        rfl
      refine ⟨_, rfl, a, rfl, ⟨_, SqL.of ha⟩, fun D hD => ?_⟩
      refine lcR walk_list RV0 (fun i => (wd.take i).map fun d => V.bl (Vbndaa.isDigit d)) rv0_mono hD rfl (fun H' s' => SqL.of (s' _ _ ha)) (fun i x H2 H3 hi q y => ?_) (fun H' us s' hd q => ?_)
      · obtain ⟨rfl, hx⟩ := y
        obtain ⟨d, hd, rfl⟩ := map_at hx
        refine ⟨rfl, _, rfl, d, rfl, ?_⟩
        exact q.yes rv0_mono (Same.refl _) (by rw [take_succ hd, List.map_append]; rfl) rfl (by rw [List.length_map, List.length_take]; omega)
      · rw [rv0_eq q, List.length_map, List.take_of_length_le (Nat.le_refl _)] at hd
        obtain ⟨f1, f2⟩ := step h1 h3 D H' s' hd
        rw [bl_map] at hd
        refine ⟨D, _, rfl, SqL.of hd, _, rfl, ?_⟩
        cases e : (wd.map Vbndaa.isDigit).all id with
        | false => exact f1 e
        | true =>
          have f3 := f2 e
          refine ⟨_, rfl, a, _, rfl, .inl (SqL.of (s' _ _ ha)), rfl, _, rfl, ?_⟩
          rw [List.length_map]
          by_cases e1 : wd.length = 1
          · rw [decide_eq_true e1] at f3
            refine ite2 (fun _ => f3) (fun z => absurd (decide_eq_true (show V.int ((wd.length : Nat) : Int) = V.int 1 by rw [e1]; rfl)) z)
          · rw [decide_eq_false e1] at f3
            refine ite2 (fun z => absurd (of_decide_eq_true z) (fun y => e1 (nv_inj (b := 1) y))) (fun _ => ?_)
            obtain ⟨n, r, rfl⟩ : ∃ n r, wd = n :: r := by
              cases wd with
              | nil => simp at h1
              | cons n r => exact ⟨n, r, rfl⟩
            refine ⟨_, rfl, a, _, (0 : Nat), nv n, rfl, rfl, SqL.of (s' _ _ ha), atI_nat rfl, rfl, ?_⟩
            have e3 : decide (nv n = V.int 48) = decide ((n :: r).head? = some 48) := by
              rw [Bool.eq_iff_iff, decide_eq_true_iff, decide_eq_true_iff, List.head?_cons, Option.some_inj]
              exact ⟨fun z => nv_inj (b := 48) z, fun z => by rw [z]; rfl⟩
            rw [e3]
            exact f3
  · rw [decide_eq_true_iff, List.length_map] at q1
    have hk2 := hk H (Same.refl H)
    rw [decide_eq_false (show ¬ 1 ≤ wd.length by omega)] at hk2
    exact ⟨_, rfl, hk2⟩
abbrev N_value_of : List Str := ["word", "found", "byte"]
theorem sc_value_of : FnScope N_value_of ["word"] (defScope s_value_of) := ⟨rfl, rfl, rfl, by decide +kernel, rfl, by decide +kernel, by decide +kernel⟩
theorem ok_value_of (c : Ctx K mg) : OkF P w K mg base (L2.CX P w) 1 "value_of" ["word"] ((fun vs H Q _ => ∃ (a : Addr) (wd : List Nat), vs = [.ref a] ∧ LN H a wd ∧ wd.all Vbndaa.isDigit = true ∧ Q (nv (Vbndaa.valueOf wd)) H)) := by
  refine okF (f_value_of c) (g_value_of c) sc_value_of (fun _ _ _ _ _ _ us hl => match us, hl with | [_], _ => rfl) (fun vs H Q E h => by obtain ⟨a, wd, rfl, ha, hg, k⟩ := h; rfl) fun cdv A outer s H vs Q E hr h => ⟨_, (pss_cons (ps_set (i := 1) sc_value_of.nd rfl (Or.inl rfl) pe_int)
      (pss_cons (ps_for PassesOwn.leaving rfl (pi_list (pv 0)) (pg_name (i := 2) sc_value_of.nd rfl (Or.inl rfl)) (pss_one (ps_set (i := 1) sc_value_of.nd rfl (Or.inl rfl) (pe_op op_sub (pe_op op_add (pe_op op_mul pe_int (pv 1)) (pv 2)) (pgi (i_FIRST_DIGIT c))))))
      (pss_one (ps_ret (pv 1))))), ?_⟩
  obtain ⟨a, wd, rfl, ha, hg, k⟩ := h
  refine ⟨_, rfl, a, rfl, ⟨_, SqL.of ha⟩, for_list (K := K) (a := a) (xs := wd.map nv) (fun i σ H' => ∃ x, σ = [some (.ref a), some (nv (Vbndaa.valueOf (wd.take i))), x] ∧ H' = H) ⟨none, rfl, rfl⟩ (fun i σ H' _ ⟨_, _, e⟩ => SqL.of (by rw [e]; exact ha)) ?_ ?_⟩
  · rintro i x σ H' hx ⟨x0, rfl, rfl⟩
    obtain ⟨d, hd, rfl⟩ := map_at hx
    have hdig : Vbndaa.isDigit d = true := List.all_eq_true.mp hg d (List.mem_of_getElem? hd)
    unfold Vbndaa.isDigit at hdig
    rw [Bool.and_eq_true, decide_eq_true_iff, decide_eq_true_iff] at hdig
    refine ⟨_, rfl, _, _, rfl, rfl, .inl ⟨by decide, by decide⟩, _, rfl, _, _, rfl, rfl, _, _, rfl, rfl, some (nv d), ?_, rfl⟩
    have e : Vbndaa.valueOf (wd.take (i + 1)) = 10 * Vbndaa.valueOf (wd.take i) + (d - 48) := by
      unfold Vbndaa.valueOf
      rw [take_succ hd, List.foldl_append]
      rfl
    rw [e]
    show [some (V.ref a), some (V.int (10 * ((Vbndaa.valueOf (wd.take i) : Nat) : Int) + d - 48)), some (nv d)] = _
    congr 4
    omega
  · rintro σ H' ⟨x0, rfl, rfl⟩
    rw [List.length_map, List.take_of_length_le (Nat.le_refl _)]
    exact ⟨_, rfl, k⟩
theorem join_snoc : ∀ (ws : List (List Nat)) (x : List Nat), ws ≠ [] → Vbndaa.joinWithSpaces (ws ++ [x]) = Vbndaa.joinWithSpaces ws ++ 32 :: x
  | [], _, h => absurd rfl h
  | [w], x, _ => rfl
  | w :: y :: l, x, _ => by
    show w ++ 32 :: Vbndaa.joinWithSpaces ((y :: l) ++ [x]) = (w ++ 32 :: Vbndaa.joinWithSpaces (y :: l)) ++ 32 :: x
    rw [join_snoc (y :: l) x (List.cons_ne_nil _ _)]
    simp
theorem join_pos : ∀ (ws : List (List Nat)), ws ≠ [] → (∀ w ∈ ws, w ≠ []) → Vbndaa.joinWithSpaces ws ≠ []
  | [], h, _ => absurd rfl h
  | [w], _, h => h w (by simp)
  | w :: y :: l, _, _ => by
    show w ++ 32 :: _ ≠ []
    simp
theorem join_mono : ∀ (ws vs : List (List Nat)), (Vbndaa.joinWithSpaces ws).length ≤ (Vbndaa.joinWithSpaces (ws ++ vs)).length
  | ws, [] => by rw [List.append_nil]; exact Nat.le_refl _
  | ws, x :: vs => by
    have h := join_mono (ws ++ [x]) vs
    rw [List.append_assoc] at h
    refine Nat.le_trans ?_ h
    by_cases e : ws = []
    · rw [e]
      exact Nat.zero_le _
    · rw [join_snoc ws x e, List.length_append]
      omega
def spLineOf : Sp := fun vs H Q _ => ∃ (a : Addr) (ws : List (List Nat)), vs = [.ref a] ∧ LW H a ws ∧ (∀ w ∈ ws, w ≠ []) ∧ (Vbndaa.joinWithSpaces ws).length ≤ 1000000 ∧ RetN Q H (Vbndaa.joinWithSpaces ws)
abbrev N_line_of : List Str := ["words", "found", "word"]
theorem sc_line_of : FnScope N_line_of ["words"] (defScope s_line_of) := ⟨rfl, rfl, rfl, by decide +kernel, rfl, by decide +kernel, by decide +kernel⟩
theorem ok_line_of (c : Ctx K mg) : OkF P w K mg base (L2.CX P w) 1 "line_of" ["words"] (spLineOf) := by
  refine okF (f_line_of c) (g_line_of c) sc_line_of (fun _ _ _ _ _ _ us hl => match us, hl with | [_], _ => rfl) (fun vs H Q E h => by obtain ⟨a, ws, rfl, ha, hne, hz, k⟩ := h; rfl) fun cdv A outer s H vs Q E hr h => ⟨_, (pss_cons (ps_set (i := 1) sc_line_of.nd rfl (Or.inl rfl) (pe_lst pa_nil))
      (pss_cons (ps_for PassesOwn.leaving rfl (pi_list (pv 0)) (pg_name (i := 2) sc_line_of.nd rfl (Or.inl rfl)) (pss_cons (ps_if (pt_cmpR op_gt (pe_callB (lenK (K := K) rfl) (by rfl) (b_len c) boot_len (pa_cons (pv 1) pa_nil)) pe_int (nomark _)) (pss_one (ps_expr (pe_bm PySem.F.plainAttrs_list PySem.F.slot_list_append PySem.F.type_list_append mt_append (pv 1) (pa_cons (pgi (i_SPACE c)) pa_nil)))) pss_nil)
      (pss_one (ps_expr (pe_bm PySem.F.plainAttrs_list PySem.F.slot_list_extend PySem.F.type_list_extend mt_extend (pv 1) (pa_cons (pv 2) pa_nil))))))
      (pss_one (ps_ret (pv 1))))), ?_⟩
  obtain ⟨a, ws, rfl, ha, hne, hz, k⟩ := h
  obtain ⟨as, h1, h2⟩ := ha
  refine ⟨Nat.zero_le _, fun f hf => ?_⟩
  refine ⟨_, rfl, a, rfl, ⟨_, SqL.of ((Same.new hf) _ _ h1)⟩, for_list (K := K) (a := a) (xs := as.map V.ref) (fun i σ H' => ∃ x, σ = [some (.ref a), some (.ref f), x] ∧ AcAt RV0 H f ((Vbndaa.joinWithSpaces (ws.take i)).map nv) H') ⟨none, rfl, AcAt.start hf⟩ (fun i σ H' _ ⟨_, _, p⟩ => SqL.of (p.same0 _ _ h1)) ?_ ?_⟩
  · rintro i x σ H' hx ⟨x0, rfl, p⟩
    obtain ⟨b, hb, rfl⟩ := map_at hx
    obtain ⟨wd, hw, hwd⟩ := pr_get h2 hb
    obtain ⟨vs, hv, hp⟩ := p.done rv0_mono
    obtain rfl := rv0_eq hp
    have hT := take_succ hw
    have hlen : (Vbndaa.joinWithSpaces (ws.take (i + 1))).length ≤ 1000000 := by
      have := join_mono (ws.take (i + 1)) (ws.drop (i + 1))
      rw [List.take_append_drop] at this
      omega
    refine ⟨_, rfl, f, _, rfl, .inl (SqL.of hv), _, _, rfl, rfl, _, rfl, ite2 (fun q => ?_) (fun q => ?_)⟩
    · rw [decide_eq_true_iff, List.length_map] at q
      have hi : ws.take i ≠ [] := fun e => by
        rw [e] at q
        simp [Vbndaa.joinWithSpaces] at q
      rw [hT, join_snoc _ _ hi] at hlen
      rw [List.length_append, List.length_cons] at hlen
      refine ⟨_, rfl, .inl ⟨rfl, _, SqL.of hv⟩, f, _, _, rfl, rfl, hv, by rw [sizeLine_eq, List.length_map]; omega, ?_⟩
      have p2 := p.add rv0_mono hv (y := .int 32) (e := .int 32) rfl
      have nb : b ≠ f := p.off hwd
      refine ⟨_, rfl, .inl ⟨rfl, _, SqL.of upd_same⟩, _, rfl, f, b, _, _, rfl, rfl, upd_same, (upd_ne nb).trans (p.same0 _ _ hwd), by rw [sizeLine_eq]; simp only [List.length_append, List.length_map, List.length_cons, List.length_nil]; omega, ?_⟩
      refine ⟨_, rfl, ?_⟩
      have p3 := p2.adds upd_same (rv0_self (H := drp _ [f]) (wd.map nv))
      rw [hT, join_snoc _ _ hi, List.map_append, List.map_cons]
      rw [List.append_assoc] at p3
      rw [List.append_assoc]
      exact p3
    · have hi : ws.take i = [] := by
        apply Classical.byContradiction
        intro e
        have := join_pos _ e (fun w hw => hne w (List.mem_of_mem_take hw))
        refine q (decide_eq_true ?_)
        rw [List.length_map]
        have := List.length_pos_iff.mpr this
        omega
      have nb : b ≠ f := p.off hwd
      rw [hT, hi] at hlen
      have hl2 : wd.length ≤ 1000000 := hlen
      rw [hi] at hv
      refine ⟨_, rfl, .inl ⟨rfl, _, SqL.of hv⟩, _, rfl, f, b, _, _, rfl, rfl, hv, p.same0 _ _ hwd, by rw [sizeLine_eq]; simp only [Vbndaa.joinWithSpaces, List.length_map, List.length_nil]; omega, ?_⟩
      refine ⟨_, rfl, ?_⟩
      rw [hi] at p
      have p3 := p.adds hv (rv0_self (H := drp _ [f]) (wd.map nv))
      rw [hT, hi]
      exact p3
  · rintro σ H' ⟨x0, rfl, p⟩
    obtain ⟨vs, hv, hp⟩ := p.done rv0_mono
    obtain rfl := rv0_eq hp
    refine ⟨_, rfl, k f H' p.same0 hf ?_⟩
    rw [List.length_map, h2.length, List.take_of_length_le (Nat.le_refl _)] at hv
    exact hv
end

end VD
namespace VD
open PySem PySem.Spec PyProof.Rows L2
/-! ## permutations -/
def spPermB : Sp := fun vs H Q _ => ∃ (a : Addr) (o : List Nat), vs = [.ref a] ∧ LN H a o ∧ o.length ≤ 100000 ∧ RetV Q H (.bl (Vbndaa.isPermutation o.length o))
def dz (z : Int) : PyData := .int z
theorem dp_ints {K : PySem.W.Frag} {H : Hp} : ∀ zs : List Int, DpAll K H (zs.map V.int) (zs.map dz)
  | [] => .nil
  | z :: r => .cons (.int z) (dp_ints r)
theorem eqv_dzs : ∀ v w : List Int, PyData.eqvAll (v.map dz) (w.map dz) = decide (v = w)
  | [], [] => rfl
  | [], _ :: _ => rfl
  | _ :: _, [] => rfl
  | a :: v, b :: w => by
    show ((a == b) && PyData.eqvAll (v.map dz) (w.map dz)) = _
    rw [eqv_dzs v w, Bool.eq_iff_iff, Bool.and_eq_true, beq_iff_eq, decide_eq_true_iff, decide_eq_true_iff, List.cons.injEq]
theorem sh_dzs (l : List Int) : SeqAt.shaped (.list (l.map dz)) = true := by
  have lay : ∀ l : List Int, PyData.canLayAll0 (l.map dz) = true := fun l => by
    induction l with
    | nil => rfl
    | cons z r ih =>
      show (PyData.canLay0 (dz z) && PyData.canLayAll0 (r.map dz)) = true
      rw [ih]
      rfl
  have dep : ∀ l : List Int, PyData.depthAll (l.map dz) ≤ 1 := fun l => by
    induction l with
    | nil => simp [PyData.depthAll]
    | cons z r ih =>
      have h2 : (dz z).depth ≤ 1 := by simp [dz, PyData.depth]
      simp only [List.map_cons, PyData.depthAll]
      omega
  refine shaped_of ?_ ?_
  · simp only [PyData.canLay0]
    exact lay l
  · have := dep l
    simp only [PyData.depth]
    omega
theorem rgV_nat (n : Nat) : rgV 0 (n : Int) = ((List.range n).map fun (i : Nat) => (i : Int)).map V.int := by
  unfold rgV
  simp [List.map_map, Function.comp_def]
def spComposed : Sp := fun vs H Q _ => ∃ (a b : Addr) (o q : List Nat), vs = [.ref a, .ref b] ∧ LN H a o ∧ LN H b q ∧ (∀ x ∈ q, x < o.length) ∧ q.length ≤ 100000 ∧ RetN Q H (Vbndaa.compose o q)
def spInverse : Sp := fun vs H Q _ => ∃ (a : Addr) (o : List Nat), vs = [.ref a] ∧ LN H a o ∧ o.length ≤ 100000 ∧ Vbndaa.isPermutation o.length o = true ∧ RetN Q H (Vbndaa.inverse o)
section
variable {P : Program} {w : World} {K : PySem.W.Frag} {mg : Str → Option Value} {base : Heap}
abbrev N_is_permutation : List Str := ["row"]
theorem sc_is_permutation : FnScope N_is_permutation ["row"] (defScope s_is_permutation) := ⟨rfl, rfl, rfl, by decide +kernel, rfl, by decide +kernel, by decide +kernel⟩
theorem ok_is_permutation (c : Ctx K mg) : OkF P w K mg base (L2.CX P w) 1 "is_permutation" ["row"] (spPermB) := by
  refine okF (f_is_permutation c) (g_is_permutation c) sc_is_permutation (fun _ _ _ _ _ _ us hl => match us, hl with | [_], _ => rfl) (fun vs H Q E h => by obtain ⟨a, o, rfl, ha, hz, k⟩ := h; rfl) fun cdv A outer s H vs Q E hr h => ⟨_, (pss_one (ps_ret (pe_cmpR (eqDK (K := K) rfl hr.units) (pe_callB (sortedK (K := K) rfl) (by rfl) (b_sorted c) (by decide +kernel) (pa_cons (pv 0) pa_nil)) (pe_listRg rfl rfl (b_list c) (prg_1 rfl (b_range c) (pe_callB (lenK (K := K) rfl) (by rfl) (b_len c) boot_len (pa_cons (pv 0) pa_nil)))) (nomark _)))), ?_⟩
  obtain ⟨a, o, rfl, ha, hz, k⟩ := h
  refine ⟨_, rfl, a, o.map fun (n : Nat) => (n : Int), rfl, SqL.of (by rw [← nv_map]; exact ha), fun zs p hp hs hn => ?_⟩
  have s1 : Same H (upd H p (.lst (zs.map V.int))) := Same.new hn
  refine ⟨_, rfl, a, _, rfl, .inl (SqL.of (s1 _ _ ha)), _, rfl, ?_⟩
  rw [List.length_map]
  refine ⟨⟨by decide, by decide, by omega, by omega⟩, fun q hq => ?_⟩
  have s2 := s1.trans (Same.new (o := .lst (rgV 0 ((o.length : Nat) : Int))) hq)
  refine ⟨.list (zs.map dz), .list (((List.range o.length).map fun (n : Nat) => (n : Int)).map dz), .lst (SqL.of ((upd_ne (ne_of_none upd_same hq)).trans upd_same)) (dp_ints zs), .lst (SqL.of (by rw [upd_same, rgV_nat])) (dp_ints _), sh_dzs _, sh_dzs _, ?_⟩
  have e : PyData.eqv (.list (zs.map dz)) (.list (((List.range o.length).map fun (n : Nat) => (n : Int)).map dz)) = Vbndaa.isPermutation o.length o := by
    show PyData.eqvAll _ _ = _
    rw [eqv_dzs, Bool.eq_iff_iff, decide_eq_true_iff]
    exact sorted_range hp hs _
  rw [e]
  exact k _ s2
abbrev N_composed : List Str := ["one", "other", "entry"]
theorem sc_composed : FnScope N_composed ["one", "other"] (defScope s_composed) := ⟨rfl, rfl, rfl, by decide +kernel, rfl, by decide +kernel, by decide +kernel⟩
theorem ok_composed (c : Ctx K mg) : OkF P w K mg base (L2.CX P w) 1 "composed" ["one", "other"] (spComposed) := by
  refine okF (f_composed c) (g_composed c) sc_composed (fun _ _ _ _ _ _ us hl => match us, hl with | [_, _], _ => rfl) (fun vs H Q E h => by obtain ⟨a, b, o, q, rfl, ha, hb, hlt, hz, k⟩ := h; rfl) fun cdv A outer s H vs Q E hr h => ⟨_, (pss_one (ps_ret (pe_lc (g := gName 2) (own := [("entry", 2)]) rfl sc_composed.nd (pi_list (pv 1)) (blkOk_by (own := [("entry", 2)]) (N := N_composed) (sc := defScope s_composed) (by decide +kernel)) (fun _ _ _ _ _ => (pg_name (i := 2) sc_composed.nd rfl (Or.inl rfl) (hf := Or.inr (by rfl)))) (fun _ _ _ _ _ => pts_nil) (fun _ _ _ _ _ => (pe_ix (ix_listK (K := K) rfl) (pv 0) (pv 2) (fun _ _ => rfl)))))), ?_⟩
  obtain ⟨a, b, o, q, rfl, ha, hb, hlt, hz, k⟩ := h
  refine ⟨_, rfl, b, rfl, ⟨_, SqL.of hb⟩, fun D hD => ?_⟩
  refine lcR walk_list RV0 (fun i => ((q.take i).map fun a => o.getD a 0).map nv) rv0_mono hD rfl (fun H' s' => SqL.of (s' _ _ hb)) (fun i x H2 H3 hi p y => ?_) (fun H' us s' hd p => ?_)
  · obtain ⟨rfl, hx⟩ := y
    obtain ⟨d, hd, rfl⟩ := map_at hx
    have ho := getD_some (d := 0) (hlt d (List.mem_of_getElem? hd))
    refine ⟨rfl, _, rfl, _, rfl, a, _, (d : Int), nv (o.getD d 0), rfl, rfl, SqL.of (p.2.1 _ _ ha), atI_nat (by rw [List.getElem?_map, ho]; rfl), ?_⟩
    exact p.yes rv0_mono (Same.refl _) (by rw [take_succ hd, List.map_append, List.map_append]; rfl) rfl (by rw [List.length_map, List.length_map, List.length_take]; omega)
  · rw [rv0_eq p, List.length_map, List.take_of_length_le (Nat.le_refl _)] at hd
    exact k D H' s' hD hd
abbrev N_inverse_of : List Str := ["row", "found", "place", "entry"]
theorem sc_inverse_of : FnScope N_inverse_of ["row"] (defScope s_inverse_of) := ⟨rfl, rfl, rfl, by decide +kernel, rfl, by decide +kernel, by decide +kernel⟩
theorem ok_inverse_of (c : Ctx K mg) : OkF P w K mg base (L2.CX P w) 1 "inverse_of" ["row"] (spInverse) := by
  refine okF (f_inverse_of c) (g_inverse_of c) sc_inverse_of (fun _ _ _ _ _ _ us hl => match us, hl with | [_], _ => rfl) (fun vs H Q E h => by obtain ⟨a, o, rfl, ha, hz, hp, k⟩ := h; rfl) fun cdv A outer s H vs Q E hr h => ⟨_, (pss_cons (ps_set (i := 1) sc_inverse_of.nd rfl (Or.inl rfl) (pe_op op_rep (pe_lst (pa_cons pe_int pa_nil)) (pe_callB (lenK (K := K) rfl) (by rfl) (b_len c) boot_len (pa_cons (pv 0) pa_nil))))
      (pss_cons (ps_for PassesOwn.leaving rfl (pi_enum (by rfl) (b_enumerate c) (pa_cons (pv 0) pa_nil)) (pg_tup rfl (pgs_cons (pg_name (i := 2) sc_inverse_of.nd rfl (Or.inl rfl)) (pgs_cons (pg_name (i := 3) sc_inverse_of.nd rfl (Or.inl rfl)) pgs_nil))) (pss_one (ps_asg (pv 2) (pg_sub (pv 1) (pv 3) set_list))))
      (pss_one (ps_ret (pv 1))))), ?_⟩
  obtain ⟨a, o, rfl, ha, hz, hp, k⟩ := h
  obtain ⟨_, hlt, _⟩ := isPerm_iff.mp hp
  refine ⟨by show 1 ≤ sizeLine; decide, fun f0 hf0 => ?_⟩
  have s0 := Same.new (o := .lst [V.int 0]) hf0
  refine ⟨_, rfl, a, _, rfl, .inl (SqL.of (s0 _ _ ha)), f0, _, _, rfl, rfl, upd_same, ?_⟩
  rw [List.length_map]
  refine ⟨by omega, by omega, by rw [sizeLine_eq, Int.toNat_natCast]; simp; omega, fun f hf => ?_⟩
  have s1 := s0.trans (Same.new (o := .lst (List.replicate ((o.length : Nat) : Int).toNat [V.int 0]).flatten) hf)
  have e0 : (List.replicate ((o.length : Nat) : Int).toNat [V.int 0]).flatten = (invStep o 0).map nv := by
    rw [Int.toNat_natCast]
    show _ = (List.replicate o.length 0).map nv
    rw [List.map_replicate]
    generalize o.length = n
    induction n with
    | zero => rfl
    | succ n ih => rw [List.replicate_succ, List.flatten_cons, ih]; rfl
  have hfH : H f = none := s0.old hf
  refine ⟨_, rfl, a, _, rfl, SqL.of (s1 _ _ ha), for_it walk_enum (fun i σ H' => ∃ (x y : Option V), σ = [some (.ref a), some (.ref f), x, y] ∧ Same H H' ∧ LN H' f (invStep o i)) ⟨none, none, rfl, s1, by show upd _ f _ f = _; rw [upd_same, e0]⟩ (fun i σ H' _ ⟨_, _, _, s', _⟩ => SqL.of (s' _ _ ha)) ?_ ?_⟩
  · rintro i v σ H1 H2 hi ⟨x0, y0, rfl, s', hl⟩ ⟨T, x, y, rfl, hT, rfl, hx, hy⟩
    rw [List.length_map] at hi
    obtain rfl : x = nv i := (Option.some.inj hx).symm
    obtain ⟨n, hn, rfl⟩ := map_at hy
    have hnl := hlt n (List.mem_of_getElem? hn)
    have fT : f ≠ T := ne_of_none hl hT
    refine ⟨T, _, rfl, SqT.of upd_same, rfl, _, _, rfl, _, _, rfl, rfl, _, rfl, _, rfl, _, rfl, f, _, _, n, rfl, rfl, (upd_ne fT).trans hl, ?_, _, _, rfl, ?_, ?_⟩
    · rw [List.length_map, inv_len]
      unfold ixN
      rw [if_pos (by omega), if_pos (by omega), Int.toNat_natCast]
    · exact (s'.trans (Same.new hT)).put hfH
    · show upd _ f _ f = _
      rw [upd_same]
      have e : o.getD i 0 = n := by
        rw [List.getD_eq_getElem?_getD, hn]
        rfl
      show _ = some (HO.lst (((invStep o i).set (o.getD i 0) i).map nv))
      rw [e, List.map_set]
  · rintro σ H1 ⟨x0, y0, rfl, s', hl⟩
    rw [List.length_map, inv_done hp] at hl
    exact ⟨_, rfl, k f H1 s' hfH hl⟩
end

end VD
namespace VD
open PySem PySem.Spec PyProof.Rows L2
section
variable {P : Program} {w : World} {K : PySem.W.Frag} {mg : Str → Option Value} {base : Heap}
def spCycleFrom : Sp := fun vs H Q _ => ∃ (a : Addr) (o : List Nat) (s : Nat), vs = [.ref a, nv s] ∧ LN H a o ∧ o.length ≤ 100000 ∧ Vbndaa.isPermutation o.length o = true ∧ s < o.length ∧ RetN Q H (Vbndaa.cycleFrom o s o.length s)
abbrev N_cycle_from : List Str := ["row", "start", "found", "here"]
theorem sc_cycle_from : FnScope N_cycle_from ["row", "start"] (defScope s_cycle_from) := ⟨rfl, rfl, rfl, by decide +kernel, rfl, by decide +kernel, by decide +kernel⟩
theorem ok_cycle_from (c : Ctx K mg) : OkF P w K mg base (L2.CX P w) 1 "cycle_from" ["row", "start"] (spCycleFrom) := by
  refine okF (f_cycle_from c) (g_cycle_from c) sc_cycle_from (fun _ _ _ _ _ _ us hl => match us, hl with | [_, _], _ => rfl) (fun vs H Q E h => by obtain ⟨a, o, s0, rfl, ha, hz, hp, hs, k⟩ := h; rfl) fun cdv A outer s H vs Q E hr h => ⟨_, (pss_cons (ps_set (i := 2) sc_cycle_from.nd rfl (Or.inl rfl) (pe_lst (pa_cons (pv 1) pa_nil)))
      (pss_cons (ps_set (i := 3) sc_cycle_from.nd rfl (Or.inl rfl) (pe_ix (ix_listK (K := K) rfl) (pv 0) (pv 1) (fun _ _ => rfl)))
      (pss_cons (ps_while PassesOwn.leaving (pt_cmpR op_ne (pv 3) (pv 1) (nomark _)) (pss_cons (ps_expr (pe_bm PySem.F.plainAttrs_list PySem.F.slot_list_append PySem.F.type_list_append mt_append (pv 2) (pa_cons (pv 3) pa_nil)))
      (pss_one (ps_set (i := 3) sc_cycle_from.nd rfl (Or.inl rfl) (pe_ix (ix_listK (K := K) rfl) (pv 0) (pv 3) (fun _ _ => rfl))))))
      (pss_one (ps_ret (pv 2)))))), ?_⟩
  obtain ⟨a, o, s0, rfl, ha, hz, hp, hs, k⟩ := h
  obtain ⟨_, hlt, _⟩ := isPerm_iff.mp hp
  have nd := isPerm_nodup hp
  have at_ : ∀ {H' : Hp} {i : Nat}, LN H' a o → atI (o.map nv) ((orb o s0 i : Nat) : Int) = some (nv (o.getD (orb o s0 i) 0)) := fun {H' i} _ => atI_nat (by rw [List.getElem?_map, getD_some (d := 0) (orb_lt hlt hs i)]; rfl)
  refine ⟨_, rfl, by show 1 ≤ sizeLine; decide, fun f hf => ?_⟩
  have s1 := Same.new (o := .lst [nv s0]) hf
  refine ⟨_, rfl, _, rfl, a, _, _, _, rfl, rfl, SqL.of (s1 _ _ ha), at_ (i := 0) ha, ?_⟩
  refine while_by (fun σ H' => ∃ i, σ = [some (.ref a), some (nv s0), some (.ref f), some (nv (orb o s0 (i + 1)))] ∧ Same H H' ∧ LN H' f ((List.range (i + 1)).map (orb o s0)) ∧ ∀ j, 0 < j → j ≤ i → orb o s0 j ≠ s0)
    (fun σ H' => match H' f with | some (.lst xs) => o.length - xs.length | _ => 0) ⟨0, rfl, s1, upd_same, fun j h1 h2 => by omega⟩ ?_ ?_
  · rintro σ H' ⟨i, rfl, s', hl, hn⟩
    have hi := orb_short hlt nd hs hn
    refine ⟨_, rfl, _, rfl, rfl, _, rfl, ?_⟩
    by_cases e : orb o s0 (i + 1) = s0
    · rw [decide_eq_true (show nv (orb o s0 (i + 1)) = nv s0 by rw [e])]
      refine ⟨_, rfl, k f H' s' hf ?_⟩
      have := cycle_go i (o.length - (i + 1)) hn
      rw [show i + 1 + (o.length - (i + 1)) = o.length by omega, if_pos (show o.getD (orb o s0 i) 0 = s0 from e), List.append_nil] at this
      rw [this]
      exact hl
    · rw [decide_eq_false (show ¬ nv (orb o s0 (i + 1)) = nv s0 from fun z => e (nv_inj z))]
      have hn2 : ∀ j, 0 < j → j ≤ i + 1 → orb o s0 j ≠ s0 := fun j h1 h2 => by
        by_cases ej : j = i + 1
        · rw [ej]; exact e
        · exact hn j h1 (by omega)
      have hi2 := orb_short hlt nd hs hn2
      refine ⟨_, rfl, .inl ⟨rfl, _, SqL.of hl⟩, _, rfl, f, _, _, rfl, rfl, hl, by rw [sizeLine_eq, List.length_map, List.length_map, List.length_range]; omega, ?_⟩
      refine ⟨_, rfl, _, rfl, a, _, _, _, rfl, rfl, SqL.of ((upd_ne (ne_of_none ha hf)).trans (s' _ _ ha)), at_ (i := i + 1) ha, ⟨i + 1, rfl, s'.put hf, ?_, hn2⟩, ?_⟩
      · show upd _ f _ f = _
        rw [upd_same, List.range_succ (n := i + 1), List.map_append, List.map_append]
        rfl
      · show (match upd H' f _ f with | some (.lst xs) => o.length - xs.length | _ => 0) < (match H' f with | some (.lst xs) => o.length - xs.length | _ => 0)
        rw [upd_same, hl]
        simp only [List.length_append, List.length_map, List.length_range, List.length_cons, List.length_nil]
        omega
  · rintro σ H' R R' m ⟨v, x1, v2, x2, x3, b, x5, x6⟩
    exact ⟨v, x1, v2, x2, x3, b, x5, m _ _ x6⟩
def spCycles : Sp := fun vs H Q _ => ∃ (a : Addr) (o : List Nat), vs = [.ref a] ∧ LN H a o ∧ o.length ≤ 100000 ∧ Vbndaa.isPermutation o.length o = true ∧ RetR RW0 Q H (Vbndaa.cycles o)
theorem cycle_len (o : List Nat) (s : Nat) : ∀ f b, (Vbndaa.cycleFrom o s f b).length ≤ f
  | 0, _ => Nat.le_refl _
  | f + 1, b => by
    unfold Vbndaa.cycleFrom
    split
    · simp
    · simp only [List.length_cons]
      have := cycle_len o s f (o.getD b 0)
      omega
abbrev N_cycles_of : List Str := ["row", "found", "start", "cycle"]
theorem sc_cycles_of : FnScope N_cycles_of ["row"] (defScope s_cycles_of) := ⟨rfl, rfl, rfl, by decide +kernel, rfl, by decide +kernel, by decide +kernel⟩
theorem ok_cycles_of (c : Ctx K mg) : OkF P w K mg base (L2.CX P w) 2 "cycles_of" ["row"] (spCycles) := by
  refine okF (f_cycles_of c) (g_cycles_of c) sc_cycles_of (fun _ _ _ _ _ _ us hl => match us, hl with | [_], _ => rfl) (fun vs H Q E h => by obtain ⟨a, o, rfl, ha, hz, hp, k⟩ := h; rfl) fun cdv A outer s H vs Q E hr h => ⟨_, (pss_cons (ps_set (i := 1) sc_cycles_of.nd rfl (Or.inl rfl) (pe_lst pa_nil))
      (pss_cons (ps_for PassesOwn.leaving rfl (pi_range1 (by rfl) (b_range c) (pa_cons (pe_callB (lenK (K := K) rfl) (by rfl) (b_len c) boot_len (pa_cons (pv 0) pa_nil)) pa_nil)) (pg_name (i := 2) sc_cycles_of.nd rfl (Or.inl rfl)) (pss_cons (ps_set (i := 3) sc_cycles_of.nd rfl (Or.inl rfl) (pcall (E := E0) (ok_cycle_from c) (hr.mono (by decide)) passL (pa_cons (pv 0) (pa_cons (pv 2) pa_nil))))
      (pss_one (ps_if (PW.pt (pw_and (pt_cmpR op_gt (pe_callB (lenK (K := K) rfl) (by rfl) (b_len c) boot_len (pa_cons (pv 3) pa_nil)) pe_int (nomark _)) (pw_and1 (pt_cmpR op_eq (pe_callB (minK (K := K) rfl rfl) (by rfl) (b_min c) (by decide +kernel) (pa_cons (pv 3) pa_nil)) (pv 2) (nomark _))))) (pss_one (ps_expr (pe_bm PySem.F.plainAttrs_list PySem.F.slot_list_append PySem.F.type_list_append mt_append (pv 1) (pa_cons (pv 3) pa_nil)))) pss_nil))))
      (pss_one (ps_ret (pv 1))))), ?_⟩
  obtain ⟨a, o, rfl, ha, hz, hp, k⟩ := h
  refine ⟨Nat.zero_le _, fun f hf => ?_⟩
  have s1 := Same.new (o := .lst []) hf
  refine ⟨_, rfl, a, _, rfl, .inl (SqL.of (s1 _ _ ha)), _, rfl, by omega, by rw [List.length_map]; omega, ?_⟩
  rw [List.length_map, Int.toNat_natCast]
  let G : Nat → Option (List Nat) := fun b => let r := Vbndaa.cycleFrom o b o.length b
    if 2 ≤ r.length ∧ r.all (fun x => decide (b ≤ x)) = true then some r else none
  refine for_range (lo := 0) (n := o.length) (fun i σ H' => ∃ (x y : Option V), σ = [some (.ref a), some (.ref f), x, y] ∧ AcAt RW0 H f ((List.range i).filterMap G) H') ⟨none, none, rfl, AcAt.start hf⟩ ?_ ?_
  · rintro i σ H' hi ⟨x, y, rfl, p⟩
    have ei : (0 : Int) + (i : Nat) = (i : Nat) := by omega
    rw [ei]
    have hG : (List.range (i + 1)).filterMap G = (List.range i).filterMap G ++ (match G i with | some r => [r] | none => []) := by
      rw [List.range_succ, List.filterMap_append]
      congr 1
      simp only [List.filterMap_cons, List.filterMap_nil]
      cases G i <;> rfl
    refine ⟨_, rfl, _, rfl, a, o, i, rfl, p.same0 _ _ ha, hz, hp, hi, fun q H2 s2 hq hr => ?_⟩
    have gi : G i = if 2 ≤ (Vbndaa.cycleFrom o i o.length i).length ∧ (Vbndaa.cycleFrom o i o.length i).all (fun x => decide (i ≤ x)) = true then some (Vbndaa.cycleFrom o i o.length i) else none := rfl
    have hrl := cycle_len o i o.length i
    have hi0 : ∃ t, Vbndaa.cycleFrom o i o.length i = i :: t := by
      obtain ⟨m, hm⟩ : ∃ m, o.length = m + 1 := ⟨o.length - 1, by omega⟩
      rw [hm]
      exact ⟨_, rfl⟩
    generalize Vbndaa.cycleFrom o i o.length i = r at gi hrl hi0 hr
    have p2 := p.grow rw0_mono s2
    refine ⟨_, rfl, q, _, rfl, .inl (SqL.of hr), _, _, rfl, rfl, _, rfl, ?_⟩
    have no : G i = none → ∃ (x y : Option V), [some (V.ref a), some (V.ref f), some (nv i), some (V.ref q)] = [some (.ref a), some (.ref f), x, y] ∧ AcAt RW0 H f ((List.range (i + 1)).filterMap G) H2 := fun e => by
      refine ⟨_, _, rfl, ?_⟩
      rw [hG, e, List.append_nil]
      exact p2
    refine ite2 (fun q1 => ?_) (fun q1 => ?_)
    · rw [decide_eq_true_iff, List.length_map] at q1
      refine ⟨_, rfl, q, r.map fun (n : Nat) => (n : Int), rfl, SqL.of (by rw [← nv_map]; exact hr), by rw [List.length_map]; omega, fun m hm hall => ⟨_, rfl, rfl, _, rfl, ?_⟩⟩
      obtain ⟨b, hb, rfl⟩ := List.mem_map.mp hm
      refine ite2 (fun q2 => ?_) (fun q2 => ?_)
      · have e : b = i := nv_inj (of_decide_eq_true q2)
        subst e
        have g2 : G b = some r := by
          rw [gi, if_pos ⟨by omega, List.all_eq_true.mpr fun x hx => decide_eq_true (by have := hall x (List.mem_map_of_mem hx); omega)⟩]
        obtain ⟨vs, hv, hvl⟩ := p2.lst
        have hfl : vs.length ≤ b := by
          rw [hvl]
          exact Nat.le_trans (List.length_filterMap_le _ _) (by rw [List.length_range]; exact Nat.le_refl _)
        refine ⟨_, rfl, .inl ⟨rfl, _, SqL.of hv⟩, _, rfl, f, vs, _, rfl, rfl, hv, by rw [sizeLine_eq]; omega, _, _, rfl, ?_⟩
        rw [hG, g2]
        exact p2.add rw0_mono hv ⟨q, rfl, drp_at hr (by simpa using fun e => by subst e; obtain ⟨_, _, ws, h3, _⟩ := p; rw [hq] at h3; cases h3)⟩
      · refine no ?_
        rw [gi, if_neg]
        rintro ⟨_, h2⟩
        refine q2 (decide_eq_true ?_)
        have h3 := of_decide_eq_true (List.all_eq_true.mp h2 b hb)
        have hmem : i ∈ r := by
          obtain ⟨t, e⟩ := hi0
          rw [e]
          exact List.mem_cons_self
        have h4 := hall (i : Int) (List.mem_map_of_mem hmem)
        show nv b = nv i
        rw [show b = i by omega]
    · refine no ?_
      rw [gi, if_neg]
      rintro ⟨h1, _⟩
      exact q1 (decide_eq_true (by rw [List.length_map]; omega))
  · rintro σ H' ⟨x, y, rfl, p⟩
    obtain ⟨vs, hv, hps⟩ := p.done rw0_mono
    exact ⟨_, rfl, k f H' vs p.same0 hf hv hps⟩
def spFact : Sp := fun vs H Q _ => ∃ n : Nat, vs = [nv n] ∧ n ≤ 19 ∧ Q (nv (Vbndaa.factorial n)) H
abbrev N_factorial_of : List Str := ["number", "found", "factor"]
theorem sc_factorial_of : FnScope N_factorial_of ["number"] (defScope s_factorial_of) := ⟨rfl, rfl, rfl, by decide +kernel, rfl, by decide +kernel, by decide +kernel⟩
theorem ok_factorial_of (c : Ctx K mg) : OkF P w K mg base (L2.CX P w) 1 "factorial_of" ["number"] (spFact) := by
  refine okF (f_factorial_of c) (g_factorial_of c) sc_factorial_of (fun _ _ _ _ _ _ us hl => match us, hl with | [_], _ => rfl) (fun vs H Q E h => by obtain ⟨n, rfl, hn, k⟩ := h; rfl) fun cdv A outer s H vs Q E hr h => ⟨_, (pss_cons (ps_set (i := 1) sc_factorial_of.nd rfl (Or.inl rfl) pe_int)
      (pss_cons (ps_for PassesOwn.leaving rfl (pi_range2 (by rfl) (b_range c) (pa_cons pe_int (pa_cons (pe_op op_add (pv 0) pe_int) pa_nil))) (pg_name (i := 2) sc_factorial_of.nd rfl (Or.inl rfl)) (pss_one (ps_set (i := 1) sc_factorial_of.nd rfl (Or.inl rfl) (pe_op op_mul (pv 1) (pv 2)))))
      (pss_one (ps_ret (pv 1))))), ?_⟩
  obtain ⟨n, rfl, hn, k⟩ := h
  refine ⟨_, rfl, _, _, rfl, rfl, _, _, rfl, ⟨by omega, by omega, by omega, by omega⟩, ?_⟩
  rw [show ((n : Int) + 1 - 2).toNat = n - 1 by omega]
  refine for_range (lo := 2) (n := n - 1) (fun i σ H' => ∃ (x : Option V), σ = [some (nv n), some (nv (Vbndaa.factorial (i + 1))), x] ∧ H' = H) ⟨none, rfl, rfl⟩ ?_ ?_
  · rintro i σ H' hi ⟨x, rfl, rfl⟩
    refine ⟨_, rfl, _, rfl, _, _, rfl, rfl, .inr ⟨by omega, by omega⟩, some (.int (2 + i)), ?_, rfl⟩
    show [some (nv n), some (V.int ((Vbndaa.factorial (i + 1) : Nat) * (2 + (i : Nat)) : Int)), some (V.int (2 + (i : Nat)))] = _
    have e : Vbndaa.factorial (i + 1 + 1) = (i + 1 + 1) * Vbndaa.factorial (i + 1) := rfl
    rw [e]
    congr 3
    unfold nv
    congr 1
    rw [Int.natCast_mul, Int.mul_comm]
    congr 1
    omega
  · rintro σ H' ⟨x, rfl, rfl⟩
    refine ⟨_, rfl, ?_⟩
    have e : Vbndaa.factorial (n - 1 + 1) = Vbndaa.factorial n := by
      cases n with
      | zero => rfl
      | succ n => rfl
    rw [e]
    exact k
theorem map_erase {α β : Type} (f : α → β) : ∀ (l : List α) (j : Nat), (l.map f).eraseIdx j = (l.eraseIdx j).map f
  | [], _ => rfl
  | _ :: _, 0 => rfl
  | a :: r, j + 1 => by
    show f a :: (r.map f).eraseIdx j = f a :: (r.eraseIdx j).map f
    rw [map_erase f r j]
theorem mod_fm (a b : Nat) : Int.fmod (a : Int) (b : Int) = ((a % b : Nat) : Int) := by
  rw [Int.fmod_eq_emod_of_nonneg _ (by omega)]
  rfl
def spUnrank : Sp := fun vs H Q _ => ∃ (m j : Nat), vs = [nv m, nv j] ∧ m ≤ 19 ∧ j < Vbndaa.factorial m ∧ RetN Q H (Vbndaa.unrank m j)
theorem unrank_len : ∀ (n : Nat) (l : List Nat) (j : Nat), (Vbndaa.unrankFrom l n j).length = n
  | 0, _, _ => rfl
  | n + 1, l, j => by
    show (_ :: Vbndaa.unrankFrom _ n _).length = n + 1
    rw [List.length_cons, unrank_len n]
abbrev N_permutation_at : List Str := ["many", "number", "left", "rest", "found", "place", "block", "entry"]
theorem sc_permutation_at : FnScope N_permutation_at ["many", "number"] (defScope s_permutation_at) := ⟨rfl, rfl, rfl, by decide +kernel, rfl, by decide +kernel, by decide +kernel⟩
theorem ok_permutation_at (c : Ctx K mg) : OkF P w K mg base (L2.CX P w) 2 "permutation_at" ["many", "number"] (spUnrank) := by
  refine okF (f_permutation_at c) (g_permutation_at c) sc_permutation_at (fun _ _ _ _ _ _ us hl => match us, hl with | [_, _], _ => rfl) (fun vs H Q E h => by obtain ⟨m, j, rfl, hm, hj, k⟩ := h; rfl) fun cdv A outer s H vs Q E hr h => ⟨_, (pss_cons (ps_set (i := 2) sc_permutation_at.nd rfl (Or.inl rfl) (pe_listRg rfl rfl (b_list c) (prg_1 rfl (b_range c) (pv 0))))
      (pss_cons (ps_set (i := 3) sc_permutation_at.nd rfl (Or.inl rfl) (pv 1))
      (pss_cons (ps_set (i := 4) sc_permutation_at.nd rfl (Or.inl rfl) (pe_lst pa_nil))
      (pss_cons (ps_for PassesOwn.leaving rfl (pi_range1 (by rfl) (b_range c) (pa_cons (pv 0) pa_nil)) (pg_name (i := 5) sc_permutation_at.nd rfl (Or.inl rfl)) (pss_cons (ps_set (i := 6) sc_permutation_at.nd rfl (Or.inl rfl) (pcall (E := E0) (ok_factorial_of c) (hr.mono (by decide)) passL (pa_cons (pe_op op_sub (pe_op op_sub (pv 0) (pv 5)) pe_int) pa_nil)))
      (pss_cons (ps_set (i := 7) sc_permutation_at.nd rfl (Or.inl rfl) (pe_ix (ix_listK (K := K) rfl) (pv 2) (pe_op op_fdivW (pv 3) (pv 6)) (fun _ _ => rfl)))
      (pss_cons (ps_expr (pe_bm PySem.F.plainAttrs_list PySem.F.slot_list_append PySem.F.type_list_append mt_append (pv 4) (pa_cons (pv 7) pa_nil)))
      (pss_cons (ps_expr (pe_bm PySem.F.plainAttrs_list PySem.F.slot_list_remove PySem.F.type_list_remove mt_remove (pv 2) (pa_cons (pv 7) pa_nil)))
      (pss_one (ps_set (i := 3) sc_permutation_at.nd rfl (Or.inl rfl) (pe_op op_modN (pv 3) (pv 6)))))))))
      (pss_one (ps_ret (pv 4))))))), ?_⟩
  obtain ⟨m, j, rfl, hm, hj, k⟩ := h
  refine ⟨_, rfl, _, rfl, ⟨by decide, by decide, by omega, by omega⟩, fun l hl => ?_⟩
  have s1 := Same.new (o := .lst (rgV 0 (m : Int))) hl
  refine ⟨_, rfl, Nat.zero_le _, fun f hf => ?_⟩
  have s2 := s1.trans (Same.new (o := .lst []) hf)
  have hfH : H f = none := s1.old hf
  have nlf : l ≠ f := ne_of_none upd_same hf
  refine ⟨_, rfl, _, rfl, by omega, by omega, ?_⟩
  rw [Int.toNat_natCast]
  refine for_range (lo := 0) (n := m) (fun i σ H' => ∃ (x y z : Option V) (left fnd : List Nat) (r : Nat), σ = [some (nv m), some (nv j), some (.ref l), some (nv r), some (.ref f), x, y, z] ∧ Same H H' ∧ LN H' l left ∧ LN H' f fnd ∧ left.length = m - i ∧ left.Nodup ∧ fnd.length = i ∧ r < Vbndaa.factorial (m - i) ∧ fnd ++ Vbndaa.unrankFrom left (m - i) r = Vbndaa.unrank m j)
    ⟨none, none, none, List.range m, [], j, rfl, s2, ?_, upd_same, by rw [List.length_range]; omega, List.nodup_range, rfl, by rw [Nat.sub_zero]; exact hj, by rw [Nat.sub_zero]; rfl⟩ ?_ ?_
  · show upd _ f _ l = _
    rw [upd_ne nlf, upd_same, rgV_nat, nv_map]
  · rintro i σ H' hi ⟨x, y, z, left, fnd, r, rfl, s', hL, hF, hlen, nd, hfl, hr2, hun⟩
    have ei : (0 : Int) + (i : Nat) = (i : Nat) := by omega
    rw [ei]
    obtain ⟨q, hq⟩ : ∃ q, m - i = q + 1 := ⟨m - i - 1, by omega⟩
    rw [hq] at hlen hr2 hun
    have hfp := factorial_pos q
    have hf19 := factorial_19 (show q ≤ 19 by omega)
    have hdiv : r / Vbndaa.factorial q < left.length := by
      rw [hlen, Nat.div_lt_iff_lt_mul hfp]
      exact hr2
    have gd := getD_some (d := 0) hdiv
    refine ⟨_, rfl, _, rfl, _, _, rfl, rfl, _, _, rfl, rfl, q, ?_, by omega, ?_⟩
    · show [V.int ((m : Int) - i - 1)] = [nv q]
      unfold nv
      congr 2
      omega
    refine ⟨_, rfl, _, rfl, _, rfl, (r : Int), ((Vbndaa.factorial q : Nat) : Int), rfl, rfl, wide_div (b := 64) (by omega) (by rw [Int.natAbs_natCast]; omega) (by decide) (by decide), l, _, _, nv (left.getD (r / Vbndaa.factorial q) 0), rfl, rfl, SqL.of hL, ?_, ?_⟩
    · show atI (left.map nv) ((r / Vbndaa.factorial q : Nat) : Int) = _
      exact atI_nat (by rw [List.getElem?_map, gd]; rfl)
    have hxl : left.getD (r / Vbndaa.factorial q) 0 ∈ left := List.mem_of_getElem? gd
    generalize hx : left.getD (r / Vbndaa.factorial q) 0 = e at gd hxl
    have hF2 : (fnd.map nv).length < sizeLine := by rw [sizeLine_eq, List.length_map]; omega
    refine ⟨_, rfl, .inl ⟨rfl, _, SqL.of hF⟩, _, rfl, f, _, _, rfl, rfl, hF, hF2, ?_⟩
    have hL2 : upd H' f (.lst (fnd.map nv ++ [nv e])) l = some (.lst (left.map nv)) := (upd_ne nlf).trans hL
    refine ⟨_, rfl, .inl ⟨rfl, _, SqL.of hL2⟩, _, rfl, l, left.map (fun (n : Nat) => (n : Int)), (e : Int), r / Vbndaa.factorial q, rfl, rfl, by rw [← nv_map]; exact hL2, by rw [List.getElem?_map, gd]; rfl, fun t ht hc => ?_, ?_⟩
    · obtain ⟨n, hn, he⟩ := map_at hc
      have : n = e := by omega
      subst this
      have := nd_inj nd hn gd
      omega
    refine ⟨_, rfl, _, rfl, (r : Int), ((Vbndaa.factorial q : Nat) : Int), rfl, rfl, by omega, ?_⟩
    have hu : fnd ++ e :: Vbndaa.unrankFrom (left.filter fun y => y != e) q (r % Vbndaa.factorial q) = Vbndaa.unrank m j := by
      rw [← hun, ← hx]
      rfl
    have hidx : left.eraseIdx (r / Vbndaa.factorial q) = left.erase e := by
      have h0 : left.idxOf e = r / Vbndaa.factorial q := nd_inj nd (List.getElem?_eq_getElem (List.idxOf_lt_length_of_mem hxl) |>.trans (by rw [List.getElem_idxOf])) gd
      rw [← h0, List.erase_eq_eraseIdx_of_idxOf rfl]
    refine ⟨some (nv i), some (nv (Vbndaa.factorial q)), some (nv e), left.erase e, fnd ++ [e], r % Vbndaa.factorial q, ?_, (s'.put hfH).put hl, ?_, ?_, ?_, nd.erase e, by simp; omega, ?_, ?_⟩
    · show [some (nv m), some (nv j), some (V.ref l), some (V.int (Int.fmod (r : Int) ((Vbndaa.factorial q : Nat) : Int))), some (.ref f), some (nv i), some (nv (Vbndaa.factorial q)), some (nv e)] = _
      rw [mod_fm]
      rfl
    · show upd _ l _ l = _
      rw [upd_same, nv_map, ← hidx]
      congr 3
      exact map_erase _ _ _
    · show upd _ l _ f = _
      rw [upd_ne nlf.symm, upd_same, List.map_append]
      rfl
    · rw [List.length_erase_of_mem hxl]
      omega
    · rw [show m - (i + 1) = q by omega]
      exact Nat.mod_lt _ hfp
    · rw [show m - (i + 1) = q by omega, List.append_assoc, erase_filter nd]
      exact hu
  · rintro σ H' ⟨x, y, z, left, fnd, r, rfl, s', hL, hF, hlen, nd, hfl, hr2, hun⟩
    rw [Nat.sub_self] at hun
    have e : fnd = Vbndaa.unrank m j := by
      rw [← hun]
      exact (List.append_nil _).symm
    subst e
    exact ⟨_, rfl, k f H' s' hfH hF⟩
def spRank : Sp := fun vs H Q _ => ∃ (a : Addr) (o : List Nat), vs = [.ref a] ∧ LN H a o ∧ o.length ≤ 19 ∧ RetV Q H (nv (rankSum o))
theorem rank_drop {o : List Nat} {i x : Nat} (h : o[i]? = some x) : rankSum (o.drop i) = ((o.drop (i + 1)).filter fun y => decide (y < x)).length * Vbndaa.factorial (o.length - i - 1) + rankSum (o.drop (i + 1)) := by
  rw [drop_at h]
  show _ * Vbndaa.factorial (o.drop (i + 1)).length + _ = _
  rw [List.length_drop, show o.length - (i + 1) = o.length - i - 1 by omega]
abbrev N_number_of : List Str := ["row", "found", "place", "entry", "less", "later"]
theorem sc_number_of : FnScope N_number_of ["row"] (defScope s_number_of) := ⟨rfl, rfl, rfl, by decide +kernel, rfl, by decide +kernel, by decide +kernel⟩
theorem ok_number_of (c : Ctx K mg) : OkF P w K mg base (L2.CX P w) 2 "number_of" ["row"] (spRank) := by
  refine okF (f_number_of c) (g_number_of c) sc_number_of (fun _ _ _ _ _ _ us hl => match us, hl with | [_], _ => rfl) (fun vs H Q E h => by obtain ⟨a, o, rfl, ha, hz, k⟩ := h; rfl) fun cdv A outer s H vs Q E hr h => ⟨_, (pss_cons (ps_set (i := 1) sc_number_of.nd rfl (Or.inl rfl) pe_int)
      (pss_cons (ps_for PassesOwn.leaving rfl (pi_enum (by rfl) (b_enumerate c) (pa_cons (pv 0) pa_nil)) (pg_tup rfl (pgs_cons (pg_name (i := 2) sc_number_of.nd rfl (Or.inl rfl)) (pgs_cons (pg_name (i := 3) sc_number_of.nd rfl (Or.inr rfl)) pgs_nil))) (pss_cons (ps_setLc (i := 4) (g := gName 5) (own := [("later", 5)]) rfl sc_number_of.nd rfl rfl (sw_true rfl rfl rfl (by decide +kernel)) (pi_list (pe_slice (sl_listK (K := K) rfl) (pv 0) (po_some (pe_op op_add (pv 2) pe_int)) po_none)) (blkOk_by (own := [("later", 5)]) (N := N_number_of) (sc := defScope s_number_of) (by decide +kernel)) (fun _ _ _ _ _ => (pg_name (i := 5) sc_number_of.nd rfl (Or.inl rfl) (hf := Or.inr (by rfl)))) (fun _ _ _ _ _ => pts_one (pt_cmpR op_lt (pv 5) (pv 3) (nomark _))) (fun _ _ _ _ _ => (pv 5)))
      (pss_one (ps_set (i := 1) sc_number_of.nd rfl (Or.inl rfl) (pe_op op_add (pv 1) (pe_op op_mul (pe_callB (lenK (K := K) rfl) (by rfl) (b_len c) boot_len (pa_cons (pv 4) pa_nil)) (pcall (E := E0) (ok_factorial_of c) (hr.mono (by decide)) passL (pa_cons (pe_op op_sub (pe_op op_sub (pe_callB (lenK (K := K) rfl) (by rfl) (b_len c) boot_len (pa_cons (pv 0) pa_nil)) (pv 2)) pe_int) pa_nil))))))))
      (pss_one (ps_ret (pv 1))))), ?_⟩
  obtain ⟨a, o, rfl, ha, hz, k⟩ := h
  refine ⟨_, rfl, a, _, rfl, SqL.of ha, for_it walk_enum (fun i σ H' => ∃ (x y z u : Option V) (acc : Nat), σ = [some (.ref a), some (nv acc), x, y, z, u] ∧ Same H H' ∧ acc + rankSum (o.drop i) = rankSum o) ⟨none, none, none, none, 0, rfl, Same.refl _, by rw [Nat.zero_add]; rfl⟩ (fun i σ H' _ ⟨_, _, _, _, _, _, s', _⟩ => SqL.of (s' _ _ ha)) ?_ ?_⟩
  · rintro i v σ H1 H2 hi ⟨x0, y0, z0, u0, acc, rfl, s', hacc⟩ ⟨T, x, y, rfl, hT, rfl, hx, hy⟩
    rw [List.length_map] at hi
    obtain rfl : x = nv i := (Option.some.inj hx).symm
    obtain ⟨n, hn, rfl⟩ := map_at hy
    have s2 := s'.trans (Same.new (o := .tup [nv i, nv n]) hT)
    refine ⟨T, _, rfl, SqT.of upd_same, rfl, _, _, rfl, _, _, rfl, rfl, ?_⟩
    refine ⟨_, rfl, _, rfl, _, _, rfl, rfl, _, rfl, a, _, rfl, SqL.of (s2 _ _ ha), fun b hb => ?_⟩
    have s3 := s2.trans (Same.new (o := .lst (cutV (o.map nv) (some ((i : Int) + 1)) none)) hb)
    have hcut : cutV (o.map nv) (some ((i : Int) + 1)) none = (o.drop (i + 1)).map nv := by
      unfold cutV
      rw [show ((i : Int) + 1) = ((i + 1 : Nat) : Int) by omega, HT.sIx_nat, HT.sIx_none, List.length_map, Nat.min_eq_left (by omega), ← List.map_drop, List.take_of_length_le (by rw [List.length_map, List.length_drop]; exact Nat.le_refl _)]
    rw [hcut] at s3 ⊢
    refine ⟨b, rfl, ⟨_, SqL.of upd_same⟩, fun D hD => ?_⟩
    refine lcR walk_list RV0 (fun t => (((o.drop (i + 1)).take t).filter fun y => decide (y < n)).map nv) rv0_mono hD rfl (fun H' s'' => SqL.of (s'' _ _ upd_same)) (fun t x H3 H4 ht p yy => ?_) (fun H' us s'' hd p => ?_)
    · obtain ⟨rfl, hx2⟩ := yy
      obtain ⟨d, hd, rfl⟩ := map_at hx2
      refine ⟨rfl, _, rfl, _, rfl, _, _, rfl, rfl, _, rfl, ite2 (fun q1 => ?_) (fun q1 => ?_)⟩
      · have hlt : d < n := by have := of_decide_eq_true q1; omega
        refine ⟨_, rfl, p.yes rv0_mono (Same.refl _) (e := nv d) ?_ rfl ?_⟩
        · rw [take_succ hd, List.filter_append, List.map_append, List.filter_cons, if_pos (decide_eq_true hlt)]
          rfl
        · rw [List.length_map]
          refine Nat.lt_of_le_of_lt (List.length_filter_le _ _) ?_
          rw [List.length_take, List.length_drop]
          omega
      · have hge : ¬ d < n := fun z => q1 (decide_eq_true (by omega))
        refine p.no rv0_mono (Same.refl _) ?_
        show ((((o.drop (i + 1)).take (t + 1)).filter fun y => decide (y < n))).map nv = _
        rw [take_succ hd, List.filter_append, List.map_append, List.filter_cons, if_neg (by simpa using hge)]
        simp
    · rw [rv0_eq p, List.length_map, List.take_of_length_le (Nat.le_refl _)] at hd
      have s4 := s3.trans s''
      have hk := rank_drop hn
      generalize hless : (o.drop (i + 1)).filter (fun y => decide (y < n)) = less at hd hk
      refine ⟨_, rfl, _, rfl, D, _, rfl, .inl (SqL.of hd), _, rfl, a, _, rfl, .inl (SqL.of (s4 _ _ ha)), _, rfl, _, _, rfl, rfl, _, _, rfl, rfl, o.length - i - 1, ?_, by omega, ?_⟩
      · show [V.int (((o.map nv).length : Int) - i - 1)] = [nv _]
        rw [List.length_map]
        unfold nv
        congr 2
        omega
      have hll : less.length ≤ 19 := by
        rw [← hless]
        refine Nat.le_trans (List.length_filter_le _ _) ?_
        rw [List.length_drop]
        omega
      refine ⟨_, _, rfl, rfl, .inl ⟨by omega, by rw [List.length_map]; omega⟩, _, _, rfl, rfl, ?_⟩
      refine ⟨some (nv i), some (nv n), some (.ref D), u0, acc + less.length * Vbndaa.factorial (o.length - i - 1), ?_, s4, by omega⟩
      show [_, some (V.int ((acc : Int) + ((less.map nv).length : Int) * ((Vbndaa.factorial (o.length - i - 1) : Nat) : Int))), _, _, _, _] = [_, some (V.int (((acc + less.length * Vbndaa.factorial (o.length - i - 1) : Nat)) : Int)), _, _, _, _]
      rw [List.length_map, Int.natCast_add, Int.natCast_mul]
  · rintro σ H1 ⟨x0, y0, z0, u0, acc, rfl, s', hacc⟩
    rw [List.length_map, List.drop_of_length_le (Nat.le_refl _)] at hacc
    have e : acc = rankSum o := hacc
    subst e
    exact ⟨_, rfl, k H1 s'⟩
end

end VD
namespace VD
open PySem PySem.Spec PyProof.Rows L2
/-! ### an own error with fields whose context is told to be None -/
section
variable {X : Cx} {e : Expr} {es : List Expr} {ta : TA} {p pos : Pos}
/-- as the library's rule for such an error's making; of the object it is told besides that its context is None -/
theorem pmk_oexN {CX : CXT} {x : Str} {C fI : Addr} {k : Nat} {fd : FuncData} {ps : List Str} {sp : Sp} (T : OexC X.K C) (iC : PySem.W.findIn X.K (.ref C) "__init__" = some (some (.ref fI))) (tI : PySem.W.typeIn X.K (.ref fI) = some (.type "function"))
    (F1 : FnOk X.prog X.w X.K X.mg X.base CX k fI fd ps sp) (hr : Room (k + 1) X.A) (hb : Binds X.K fd ps []) (hx : Passes CX X (fun _ _ _ => False)) (hg : Gl X x) (hm : X.mg x = some (.ref C)) (ha : PA X (e :: es) ta)
    (hdb : (x == ("__debug__" : Str)) = false := by decide) (he : starEach (e :: es) X.env = (false, eval e X.env) :: starEach es X.env := by rfl) (hpl : (backTo pos (starEach es X.env)).any (·.1) = false := by rfl) :
    L2N.PMk X (.Call (.Name x p) (e :: es) [] pos) (tMkO C sp [] ta) := by
  intro pins s σ H Q I h
  have T' := T
  obtain ⟨nm, q, N, bs, bm, sn, sub, ab, col, dd, k0, k1, k2, k3, k5, hC, hbm⟩ := T.cls
  refine wpAny_Call_Name_kw (ld_glob I hg hm ?_ hdb)
  refine PySem.W.callWith_K (h₀ := X.base) I.ok.mod.kin T.kC (thn (ha.run pos pins s σ H _ I h) fun us s1 ⟨vs, H1, I1, r1, hz, q1⟩ => ⟨I1.kIn, ?_⟩) he hpl
  show wpAny _ _ (call (.ref C) us) _ _ _
  obtain ⟨hp, g, dr, tk, os⟩ := s1
  generalize hnew : hp.objs.size + 1 = new at *
  have hsz : hp.objs.size ≤ new := by omega
  have keep : ∀ b o, hp.get? b = some o → ((hp.push (PySem.W.kdv_tup us)).push (PySem.HandSPX.excO C hp.objs.size)).get? b = some o := fun b o z => Heap.get?_push_of_some _ (Heap.get?_push_of_some _ z)
  have there : ((hp.push (PySem.W.kdv_tup us)).push (PySem.HandSPX.excO C hp.objs.size)).get? new = some (PySem.HandSPX.excO C hp.objs.size) := by
    rw [← hnew]
    heap_get
  have hq := q1 new (I1.hok.fresh hsz)
  have I2 : Inv X pins σ (upd H1 new (exo new C none)) ⟨(hp.push (PySem.W.kdv_tup us)).push (PySem.HandSPX.excO C hp.objs.size), g, dr, tk, os⟩ :=
    I1.laid (t' := tk) (a := new) (o := exo new C none) keep hsz (exo_ok there)
  have r2 : Vals (V.ref new :: (vs ++ [])) (Value.ref new :: (us ++ [])) := .cons rfl (r1.append .nil)
  have hl : (Value.ref new :: us ++ []).length = ps.length := by
    have z := r2.length
    rw [F1.len _ _ _ _ hq] at z
    exact z.symm
  have hus : us.length ≤ sizeLine := by
    rw [← Paired.length r1, sizeLine_eq]
    omega
  have hb2 := hb _ (Value.ref new :: us) I2.kIn hl
  rw [List.cons_append] at hb2
  have run := F1.run _ X.stack _ _ ⟨Value.ref new :: us, []⟩ (Value.ref new :: (us ++ [])) _ _ (fun _ _ _ => False) (hr.make C us []) (I2.env0.make C us []) hb2 r2 hq
  rw [← hnew] at run
  refine wpAny_call (PySem.HandSPX.call_own F.excBase_ValueError (fun Y => PySem.HandSPX.refsVE_contains Y bm hbm) (I1.kIn _ _ hC) (PySem.W.looks_findIn I1.kIn iC) (fun self => PySem.W.bind_fn I1.kIn self tI) hus (codeAny_mono run fun r s' hq' => ?_))
  rw [hnew] at hq'
  cases r with
  | error er => exact hx pins σ _ _ er s' I2 hq'
  | ok fl =>
    cases fl with
    | ret u =>
      obtain ⟨v, H2, os2, bare2, un2, hok2, rv, ev, d, fs, ea, ed, hd1, q2⟩ := hq'
      subst ev
      obtain ⟨h2, g2, d2, t2, os'⟩ := s'
      obtain ⟨t0, G, J, kG, ge, hoe, na⟩ := mk_end0 (d2 := d2) (t2 := t2) I1 hsz keep un2 hok2 os2 bare2 ea ed hd1
      refine ⟨rv, new, _, _, ⟨G, g2, d2, t2, os'⟩, _, .ref C, some d, by rw [hnew], J, kG, ge, hoe, ⟨rfl, rfl, fun vs hv => ?_⟩, rfl, rfl, na, rfl, bare2, raises_own T'.exC T'.tyC, q2⟩
      cases hv
      rfl
    | next => exact False.elim hq'
    | brk => exact False.elim hq'
    | cont => exact False.elim hq'
end
/-- what is told of the context may be forgotten -/
theorem cx_of {P : Program} {w : World} {outer : List Env} {H : Hp} {s s' : Shared} {E : XK} {u : Value} (h : L2N.CX P w outer H s E u s') : L2.CX P w outer H s E u s' := by
  obtain ⟨a, B, H', cls, d, e, fl, r⟩ := h
  exact ⟨a, B, H', cls, d, e, L2H.flyingZ_imp (fun _ z => z.zc) fl, r⟩
theorem passAtN {X : Cx} {W : WX} (tk : L2N.Takes X W) (σ : L2.St) : PassesAt (L2N.CX X.prog X.w) X σ (WE W σ) := L2N.passAt tk σ
theorem passAtM {X : Cx} {W : WX} (tk : L2.Takes X W) (σ : L2.St) : PassesAt (L2N.CX X.prog X.w) X σ (WE W σ) := fun _ _ _ e s' I c => L2.passAt tk σ _ _ _ e s' I (cx_of c)
theorem passLN {X : Cx} : Passes (L2N.CX X.prog X.w) X E0 := fun _ _ _ _ _ _ _ h => by
  obtain ⟨_, _, _, _, _, _, _, _, _, _, _, _, z⟩ := h
  exact z.elim
section
variable {P : Program} {w : World} {K : PySem.W.Frag} {mg : Str → Option Value} {base : Heap} {N ps : List Str} {k : Nat} {x q : Str} {st : Stmt} {f : Addr} {sp : Sp}
def BodyN (P : Program) (w : World) (K : PySem.W.Frag) (mg : Str → Option Value) (base : Heap) (N : List Str) (q : Str) (st : Stmt) (f : Addr) (k : Nat) (sp : Sp) : Prop :=
  ∀ (cdv : Value) (A : Around) (outer : List Env) (s : Shared) (H : Hp) (vs : List V) (Q : VK) (E : XK), Room k (A.deeper (envOfC q (defScope st) s.heap.objs.size f cdv)) → sp vs H Q E →
    ∃ t, PSs (cxOf (L2N.CX P w) P w K mg base N q (defScope st) f cdv A outer s H E) (defBody st) t ∧ t { nx := fun _ H' => Q .non H', rt := Q } (L2.start N vs) H
theorem okFN (F : ∃ fd, Fun K x q st f fd) (hm : mg x = some (.ref f)) (S : FnScope N ps (defScope st)) (b : Bd x q st ps) (l : Len ps.length sp) (h : BodyN P w K mg base N q st f k sp) :
    OkF P w K mg base (L2N.CX P w) (k + 1) x ps sp := by
  obtain ⟨fd, F⟩ := F
  refine ⟨f, fd, hm, F.kp, F.binds b, ?_⟩
  obtain ⟨oc, od, kV, doc, pm, an, cdv, ct, osl, rfl, lk, hcd⟩ := F.ex
  exact fn_of lk hcd S l fun A outer s H vs Q E hr hsp => h cdv A outer s H vs Q E hr hsp
end
/-- a fault flies: its kind, its place -/
def Ff (E : XK) (H : Hp) (kd pl : Nat) : Prop := ∀ d, H d = none → E (.ref c_TableFault) (some d) (upd H d (.xd [("place", nv pl), ("kind", nv kd)]))
end VD
namespace PySem
open Sem (wp)
theorem meets_enumerate_newB1 {v : Value} {o : Obj} {H : Heap → Prop} (B : Begins v o H) :
    Meets (Builtin.«enumerate.__new__» ⟨[.type "enumerate", v], []⟩) (fun _ R s => H s.heap ∧
      R (.ok (.ret (.ref (s.heap.push o).objs.size))) { s with heap := (s.heap.push o).push { cls := .type "enumerate", data := .fields #[.none, .bool false, .ref s.heap.objs.size, rawInt 0, .none, .none] } }) :=
  .of_wp fun prog w A R s h => by
    obtain ⟨hp, g, d, tk, os⟩ := s; obtain ⟨h1, h⟩ := h
    have hsub := sub_enumerate
    have q1 : ∀ {A' : Around} {E : Value → Shared → Prop} {Q : Value → Shared → Prop}, Q (.ref hp.objs.size) ⟨hp.push o, g, d, tk, os⟩ → wpAny (model prog w) A' (pyIter v) Q E ⟨hp, g, d, tk, os⟩ :=
      fun q => B.iter prog w _ _ ⟨hp, g, d, tk, os⟩ _ h1 q
    wp_walk using q1
    refine wpAny_stack_any fun st => wpAny_pure ?_
    split
    · rename_i c _ _ _ _ _
      cases (c == Value.type "enumerate")
      · wp_walk using q1
        exact ⟨_, rfl, h⟩
      · wp_walk using q1
        exact ⟨_, rfl, h⟩
    · wp_walk using q1
      exact ⟨_, rfl, h⟩
section
variable {prog : Program} {w : World} {A : Around} {E : Value → Shared → Prop} {s : Shared}
theorem enum_begins1 {v : Value} {o : Obj} {H : Heap → Prop} {Q : Value → Shared → Prop} (B : Begins v o H) (h1 : H s.heap)
    (h : ∀ h', IsEnum h' (s.heap.objs.size + 1) s.heap.objs.size 0 .none → h'.get? s.heap.objs.size = some o → h'.objs.size = s.heap.objs.size + 2 →
      (∀ b o, s.heap.get? b = some o → h'.get? b = some o) → Q (.ref (s.heap.objs.size + 1)) { s with heap := h' }) :
    wpAny (model prog w) A (call (.type "enumerate") [v]) Q E s := by
  refine callType_new F.called_enumerate (by decide) (F.typeCall_enumerate_1 _) (F.newCall_enumerate_1 _) (fun obj => F.args_object_init_2 obj _) F.entry_enumerate_new
    (meets_enumerate_newB1 B) ⟨h1, ?_⟩
  have hz : (s.heap.push o).objs.size = s.heap.objs.size + 1 := Heap.size_push ..
  show _ ∧ _
  rw [hz]
  have he : IsEnum ((s.heap.push o).push { cls := .type "enumerate", data := .fields #[.none, .bool false, .ref s.heap.objs.size, rawInt 0, .none, .none] }) (s.heap.objs.size + 1) s.heap.objs.size 0 .none := by
    have := Heap.get?_push_size (s.heap.push o) (o := { cls := .type "enumerate", data := .fields #[.none, .bool false, .ref s.heap.objs.size, rawInt 0, .none, .none] }) rfl
    rw [hz] at this; exact this
  refine ⟨⟨_, he, rfl⟩, h _ he (Heap.get?_push_of_some _ (Heap.get?_push_size _ B.free)) (by rw [Heap.size_push, hz]) fun b o x => Heap.get?_push_of_some _ (Heap.get?_push_of_some _ x)⟩
end
end PySem
namespace VD
open PySem PySem.Spec PyProof.Rows L2
/-! ### enumerate(tuple) -/
def IteT (K : PySem.W.Frag) (a : Addr) : It :=
  ⟨fun i H => ∃ (xs : List V) (x : V), SqT K H a xs ∧ xs[i]? = some x, fun i H v H' => ∃ T x, v = .ref T ∧ H T = none ∧ H' = upd H T (.tup [.int (i : Nat), x]) ∧ ∀ xs, SqT K H a xs → xs[i]? = some x, fun i H => ∃ xs : List V, SqT K H a xs ∧ xs.length ≤ i⟩
theorem turn_enumT {P : Program} {w : World} {K : PySem.W.Frag} {elts : List Expr} {kk : Nat} {tpos : Pos} (a e it : Addr) (hai : a ≠ it) (hae : a ≠ e) :
    Turn P w K (.Tuple elts kk tpos) (IteT K a) [e, it] e (fun i h => (∃ old, IsEnum h e it ((i : Nat) : Int) old) ∧ h.IsTupleIter it a i ∧ e ≠ it) where
  mem := by simp
  obj := fun i h st b hb => by
    obtain ⟨⟨old, he⟩, ⟨o, ho, hc, hd⟩, _⟩ := st
    have e' : b = e ∨ b = it := by simpa using hb
    rcases e' with z | z
    · rw [z]; exact ⟨_, he, fun v q => nomatch q⟩
    · rw [z]; exact ⟨o, ho, fun v q => by rw [hd] at q; cases q⟩
  keep := fun i h h' st k => let ⟨⟨old, he⟩, hi, hne⟩ := st; ⟨⟨old, k e (by simp) _ he⟩, hi.at fun o q => k it (by simp) o q, hne⟩
  item := by
    intro X hP hw hK hc i pins s σ H E I hf st hg
    subst hP hw hK
    obtain ⟨⟨old, he⟩, hit, hne⟩ := st
    obtain ⟨xs, x, hq, hx⟩ := hg
    obtain ⟨its, rv, p, hz⟩ := I.tuple hq
    obtain ⟨u, hu, ru⟩ := rv.get hx
    have hel : e < s.heap.objs.size := Heap.lt_size he
    have hil : it < s.heap.objs.size := by obtain ⟨_, q, _⟩ := hit; exact Heap.lt_size q
    have hlen : i < its.toArray.size := by
      obtain ⟨z, _⟩ := List.getElem?_eq_some_iff.mp hu
      simpa using z
    refine wpAny_pyNext_enum_itemD (Draws.tuple (prog := X.prog) (w := X.w) (A := X.A.in1) (show X.A.in1.handled = none from I.ok.hd hc) it a hai its.toArray) he ⟨hit, p⟩ hlen hne (by simp [hne, Ne.symm hae]) fun u' h' tk hu' ho hit' hT hsz hk => ?_
    obtain rfl : u = u' := by
      have q : its.toArray[i]? = some u := by simpa using hu
      rw [q] at hu'
      exact Option.some.inj hu'
    refine ⟨_, rfl, wpAny_letOwnedTupleGo_enum (s := { s with heap := h', toks := tk + 1 }) ho fun h'' he' sb => ?_⟩
    have hT2 : h''.get? s.heap.objs.size = some { cls := .type "tuple", data := .seq #[.int i tk, u] } := (sb.2 _ (Nat.ne_of_gt hel)).trans hT
    have new : ObjOk X.prog X.w (upd H s.heap.objs.size (.tup [.int (i : Nat), x])) h'' s.heap.objs.size (.tup [.int (i : Nat), x]) :=
      ⟨by show 2 ≤ sizeLine; decide, [.int i tk, u], .cons ⟨_, rfl⟩ (.cons ru .nil), ⟨_, hT2, rfl, _, rfl⟩⟩
    have I1 : Inv X pins σ (upd H s.heap.objs.size (.tup [.int (i : Nat), x])) { s with heap := h'', toks := tk + 1 } :=
      I.turnedNew (ch := [e, it]) (fun b ob hb q => (sb.2 b (fun z => hb (by simp [z]))).trans (hk b ob (fun z => hb (by simp [z])) (fun z => hb (by simp [z])) q)) hf (Nat.le_refl _) new
    refine ⟨.ref s.heap.objs.size, _, I1, rfl, ⟨_, x, rfl, I.hok.fresh (Nat.le_refl _), rfl, fun ys hy => by rw [I.tuple_inj hy hq]; exact hx⟩, ⟨⟨u, ?_⟩, hit'.1.at fun o q => (sb.2 it (Ne.symm hne)).trans q, hne⟩, fun b hb => ?_⟩
    · have e1 : ((i + 1 : Nat) : Int) = (i : Int) + 1 := by omega
      rw [e1]; exact he'
    · have hb' : b < s.heap.objs.size := by
        have e' : b = e ∨ b = it := by simpa using hb
        rcases e' with z | z
        · rw [z]; exact hel
        · rw [z]; exact hil
      rw [upd_ne (Nat.ne_of_lt hb')]
      exact (hf b hb).1
  done := by
    intro X hP hw hK hc i pins s σ H E I hf st hg
    subst hP hw hK
    obtain ⟨⟨old, he⟩, hit, hne⟩ := st
    obtain ⟨xs, hq, hx⟩ := hg
    obtain ⟨its, rv, p, hz⟩ := I.tuple hq
    obtain ⟨f0, f1, f2, f3, f4, f5⟩ := hf it (by simp)
    have hl := rv.length
    have hT : s.TypeIs (.ref e) "enumerate" := ⟨_, he, rfl⟩
    unfold pyNext
    refine wpAny_bind (wpAny_attempt (wpAny_callSpecial?_slot (name := Str.ofString "__next__") hT F.slot_enumerate_next
      (wpAny_call_entry F.slot_enumerate_next hT F.entry_enumerate_next ?_ (F.args_enumerate_next_1 _))))
    show wpAny _ _ (field (.ref e) 2 >>= _) _ _ _
    refine wpAny_bind (wpAny_field he rfl (x := .ref it) rfl ?_)
    refine wpAny_bind (wpAny_nextOf_tuple_end (show X.A.in1.handled = none from I.ok.hd hc) hit p (by simp; omega) fun h' x eb hx' => ?_)
    obtain ⟨o, ho, hcl⟩ := hx'
    refine wpAny_bind (wpAny_isInstance (T := "StopIteration") (b := true) ⟨o, ho, hcl⟩ isSubtype_stop ?_)
    exact wpAny_pure ⟨rfl, I.turned (t' := s.toks) (fun b o hb q => eb b o hb q) f0 f1 f3 f4 f5⟩
  self := fun A i s Q E st h => let ⟨⟨_, he⟩, _⟩ := st; wpAny_pyIter_enum he h
def iEnumT (K : PySem.W.Frag) (ta : TA) : TI := fun σ H R => ta σ H fun vs H1 => ∃ a xs, vs = [.ref a] ∧ SqT K H1 a xs ∧ R (IteT K a) H1
theorem pi_enumT {X : Cx} {K : PySem.W.Frag} (hK : X.K = K) {e : Expr} {ta : TA} {p pos tpos : Pos} {elts : List Expr} {kk : Nat} (hg : Gl X "enumerate") (hm : X.mg "enumerate" = none) (ha : PA X [e] ta) (hs : starEach [e] X.env = [(false, eval e X.env)] := by rfl) :
    PI X (.Tuple elts kk tpos) (.Call (.Name "enumerate" p) [e] [] pos) (iEnumT K ta) := by
  subst hK
  refine ⟨fun pins s σ H R I h => ?_⟩
  refine Call_ (ld_blt I hg hm boot_enumerate (PyProof.Rows.callWith_type1 (thn (ha.run pos pins s σ H _ I h) fun us s1 ⟨vs, H1, I1, r1, q1⟩ => ?_) hs rfl))
  obtain ⟨a, xs, ex, hq, q⟩ := q1
  subst ex
  cases r1 with
  | cons r rr =>
    cases rr
    cases r
    obtain ⟨its, rv, p', hz⟩ := I1.tuple hq
    obtain ⟨oa, hoa, _⟩ := id p'
    have hal : a < s1.heap.objs.size := Heap.lt_size hoa
    refine enum_begins1 (begins_tuple a its.toArray) p' fun h' he hit hsz hk => wpAny_pyIter_enum he ?_
    have I2 : Inv X pins σ H1 { s1 with heap := h' } := I1.kept (t' := s1.toks) hk
    refine ⟨s1.heap.objs.size + 1, [s1.heap.objs.size + 1, s1.heap.objs.size], _, _, H1, rfl, I2, turn_enumT a (s1.heap.objs.size + 1) s1.heap.objs.size (Nat.ne_of_lt hal) (Nat.ne_of_lt (Nat.lt_succ_of_lt hal)), ⟨⟨.none, he⟩, ⟨_, hit, rfl, rfl⟩, Nat.succ_ne_self _⟩, fun b hb => ?_, q⟩
    have e' : b = s1.heap.objs.size + 1 ∨ b = s1.heap.objs.size := by simpa using hb
    have hle : s1.heap.objs.size ≤ b := by
      rcases e' with z | z
      · rw [z]; exact Nat.le_add_right _ _
      · rw [z]; exact Nat.le_refl _
    exact I1.fpOk hle (I1.hok.fresh hle)
theorem walk_enumT {K : PySem.W.Frag} {a : Addr} {xs : List V} : Walk (IteT K a) xs.length (fun H => SqT K H a xs) (YPair (fun i => some (.int (i : Nat))) (fun i => xs[i]?)) := by
  refine ⟨fun i _ hi q => ⟨xs, xs[i], q, by simp [hi]⟩, fun _ q => ⟨xs, q, Nat.le_refl _⟩, fun i H v H' _ q y => ?_⟩
  obtain ⟨T, x, h1, h2, h3, h4⟩ := y
  exact ⟨T, .int (i : Nat), x, h1, h2, h3, rfl, h4 xs q⟩
/-! ### zip(list, tuple) -/
def ItzLT (K : PySem.W.Frag) (a b : Addr) : It :=
  ⟨fun i H => ∃ (xs ys : List V) (x y : V), SqL K H a xs ∧ SqT K H b ys ∧ xs[i]? = some x ∧ ys[i]? = some y,
    fun i H v H' => ∃ T x y, v = .ref T ∧ H T = none ∧ H' = upd H T (.tup [x, y]) ∧ (∀ xs, SqL K H a xs → xs[i]? = some x) ∧ ∀ ys, SqT K H b ys → ys[i]? = some y,
    fun i H => ∃ xs ys : List V, SqL K H a xs ∧ SqT K H b ys ∧ i ≤ xs.length ∧ i ≤ ys.length ∧ (i = xs.length ∨ i = ys.length)⟩
theorem turn_zipLT {P : Program} {w : World} {K : PySem.W.Frag} {elts : List Expr} {kk : Nat} {tpos : Pos} {a b z TI TO i1 i2 : Addr} (D : ZipSep2 z TI TO i1 i2 [i1, a] [i2, b]) (ha : a ≠ i1) (hb : b ≠ i2) :
    Turn P w K (.Tuple elts kk tpos) (ItzLT K a b) [z, TI, TO, i1, i2] z (fun i h => IsZip h z TI TO .none ∧ IsTupOf2 h TI (.ref i1) (.ref i2) ∧ (∃ x y, IsTupOf2 h TO x y) ∧ h.IsListIter i1 a i ∧ h.IsTupleIter i2 b i) where
  mem := by simp
  obj := fun i h st c hc => by
    obtain ⟨hz, hTI, ⟨x, y, hTO⟩, ⟨o1, e1, _, d1⟩, ⟨o2, e2, _, d2⟩⟩ := st
    have e' : c = z ∨ c = TI ∨ c = TO ∨ c = i1 ∨ c = i2 := by simpa using hc
    rcases e' with q | q | q | q | q
    · rw [q]; exact ⟨_, hz, fun v q => nomatch q⟩
    · rw [q]; exact ⟨_, hTI, fun v q => nomatch q⟩
    · rw [q]; exact ⟨_, hTO, fun v q => nomatch q⟩
    · rw [q]; exact ⟨o1, e1, fun v q => by rw [d1] at q; cases q⟩
    · rw [q]; exact ⟨o2, e2, fun v q => by rw [d2] at q; cases q⟩
  keep := fun i h h' st k => by
    obtain ⟨hz, hTI, ⟨x, y, hTO⟩, h1, h2⟩ := st
    exact ⟨k z (by simp) _ hz, k TI (by simp) _ hTI, ⟨x, y, k TO (by simp) _ hTO⟩, h1.at fun o q => k i1 (by simp) o q, h2.at fun o q => k i2 (by simp) o q⟩
  item := by
    intro X hP hw hK hc i pins s σ H E I hf st hg
    subst hP hw hK
    obtain ⟨hz, hTI, ⟨x0, y0, hTO⟩, h1, h2⟩ := st
    obtain ⟨xs, ys, x, y, hqx, hqy, hx, hy⟩ := hg
    obtain ⟨its, rv, p, _⟩ := I.list hqx
    obtain ⟨its2, rv2, p2, _⟩ := I.tuple hqy
    obtain ⟨u, hu, ru⟩ := rv.get hx
    obtain ⟨u2, hu2, ru2⟩ := rv2.get hy
    have hzl : z < s.heap.objs.size := Heap.lt_size hz
    have hd : X.A.in1.handled = none := I.ok.hd hc
    have l1 : i < its.toArray.size := by
      obtain ⟨q, _⟩ := List.getElem?_eq_some_iff.mp hu
      simpa using q
    have l2 : i < its2.toArray.size := by
      obtain ⟨q, _⟩ := List.getElem?_eq_some_iff.mp hu2
      simpa using q
    refine wpAny_pyNext_zipD2_item D (Draws.list (prog := X.prog) (w := X.w) (A := X.A.in1) hd i1 a ha its.toArray) (Draws.tuple (prog := X.prog) (w := X.w) (A := X.A.in1) hd i2 b hb its2.toArray) hz hTI hTO ⟨h1, p.isList⟩ ⟨h2, p2⟩ l1 l2 fun u' u2' h' tk hu' hu2' z' TO' h1' h2' hT hsz hk => ?_
    obtain rfl : u = u' := by
      have q : its.toArray[i]? = some u := by simpa using hu
      rw [q] at hu'
      exact Option.some.inj hu'
    obtain rfl : u2 = u2' := by
      have q : its2.toArray[i]? = some u2 := by simpa using hu2
      rw [q] at hu2'
      exact Option.some.inj hu2'
    refine ⟨_, rfl, wpAny_letOwnedTupleGo_zip (s := { s with heap := h', toks := tk }) z' fun h'' z'' sb => ?_⟩
    have hT2 : h''.get? s.heap.objs.size = some { cls := .type "tuple", data := .seq #[u, u2] } := (sb.2 _ (Nat.ne_of_gt hzl)).trans hT
    have new : ObjOk X.prog X.w (upd H s.heap.objs.size (.tup [x, y])) h'' s.heap.objs.size (.tup [x, y]) :=
      ⟨by show 2 ≤ sizeLine; decide, [u, u2], .cons ru (.cons ru2 .nil), ⟨_, hT2, rfl, _, rfl⟩⟩
    have I1 : Inv X pins σ (upd H s.heap.objs.size (.tup [x, y])) { s with heap := h'', toks := tk } :=
      I.turnedNew (t' := tk) (ch := [z, TI, TO, i1, i2]) (fun c o hb q => (sb.2 c (fun q' => hb (by simp [q']))).trans (hk c o (fun q' => hb (by simp [q'])) (fun q' => hb (by simp [q'])) (fun q' => hb (by simp [q'])) (fun q' => hb (by simp [q'])) q)) hf (Nat.le_refl _) new
    refine ⟨.ref s.heap.objs.size, _, I1, rfl, ⟨_, x, y, rfl, I.hok.fresh (Nat.le_refl _), rfl, fun l hl => by rw [I.list_inj hl hqx]; exact hx, fun l hl => by rw [I.tuple_inj hl hqy]; exact hy⟩, ⟨z'', ?_, ⟨u, u2, ?_⟩, ?_, ?_⟩, fun c hcm => ?_⟩
    · exact (sb.2 _ D.TIz).trans (hk _ _ D.TIz D.TITO D.TIi1 D.TIi2 hTI)
    · exact (sb.2 _ D.TOz).trans TO'
    · exact h1'.1.at fun o q => (sb.2 _ (Ne.symm D.zi1)).trans q
    · exact h2'.1.at fun o q => (sb.2 _ (Ne.symm D.zi2)).trans q
    · have hlt : c < s.heap.objs.size := by
        have e' : c = z ∨ c = TI ∨ c = TO ∨ c = i1 ∨ c = i2 := by simpa using hcm
        rcases e' with q | q | q | q | q
        · rw [q]; exact hzl
        · rw [q]; exact Heap.lt_size hTI
        · rw [q]; exact Heap.lt_size hTO
        · rw [q]; obtain ⟨_, e1, _⟩ := h1; exact Heap.lt_size e1
        · rw [q]; obtain ⟨_, e2, _⟩ := h2; exact Heap.lt_size e2
      rw [upd_ne (Nat.ne_of_lt hlt)]
      exact (hf c hcm).1
  done := by
    intro X hP hw hK hc i pins s σ H E I hf st hg
    subst hP hw hK
    obtain ⟨hz, hTI, ⟨x0, y0, hTO⟩, h1, h2⟩ := st
    obtain ⟨xs, ys, hqx, hqy, hl1, hl2, hend⟩ := hg
    obtain ⟨its, rv, p, _⟩ := I.list hqx
    obtain ⟨its2, rv2, p2, _⟩ := I.tuple hqy
    have l1 := rv.length
    have l2 := rv2.length
    have hd : X.A.in1.handled = none := I.ok.hd hc
    exact wpAny_pyNext_zipD2_end D (Draws.list (prog := X.prog) (w := X.w) (A := X.A.in1) hd i1 a ha its.toArray) (Draws.tuple (prog := X.prog) (w := X.w) (A := X.A.in1) hd i2 b hb its2.toArray) hz hTI hTO ⟨h1, p.isList⟩ ⟨h2, p2⟩ (by simp; omega) (by simp; omega) (by simp; omega) fun h' tk hk => ⟨rfl, I.turnedL (t' := tk) (ch := [z, TI, TO, i1, i2]) (fun c o hb q =>
      hk c o (fun q' => hb (by simp [q'])) (fun q' => hb (by simp [q'])) (fun q' => hb (by simp [q'])) (fun q' => hb (by simp [q'])) q) hf⟩
  self := fun A i s Q E st h => wpAny_pyIter_zip st.1 h
def iZipLT (K : PySem.W.Frag) (ta : TA) : TI := fun σ H R => ta σ H fun vs H1 => ∃ a b xs ys, vs = [.ref a, .ref b] ∧ SqL K H1 a xs ∧ SqT K H1 b ys ∧ R (ItzLT K a b) H1
theorem pi_zipLT {X : Cx} {K : PySem.W.Frag} (hK : X.K = K) {e e2 : Expr} {ta : TA} {p pos tpos : Pos} {elts : List Expr} {kk : Nat} (hg : Gl X "zip") (hm : X.mg "zip" = none) (ha : PA X [e, e2] ta)
    (hs : starEach [e, e2] X.env = (false, eval e X.env) :: starEach [e2] X.env := by rfl) (hpl : (backTo pos (starEach [e2] X.env)).any (·.1) = false := by rfl) :
    PI X (.Tuple elts kk tpos) (.Call (.Name "zip" p) [e, e2] [] pos) (iZipLT K ta) := by
  subst hK
  refine ⟨fun pins s σ H R I h => ?_⟩
  refine Call_ (ld_blt I hg hm PyProof.Rows.boot_zip (PyProof.Rows.callWith_type1 (thn (ha.run pos pins s σ H _ I h) fun us s1 ⟨vs, H1, I1, r1, q1⟩ => ?_) hs hpl))
  obtain ⟨a, b, xs, ys, ex, hqx, hqy, q⟩ := q1
  subst ex
  cases r1 with
  | cons r rr =>
    cases rr with
    | cons r' rr =>
      cases rr
      cases r
      cases r'
      obtain ⟨its, rv, p1, _⟩ := I1.list hqx
      obtain ⟨its2, rv2, p2, _⟩ := I1.tuple hqy
      obtain ⟨o2, ho2, _⟩ := id p2
      have la : a < s1.heap.objs.size := p1.lt
      have lb : b < s1.heap.objs.size := Heap.lt_size ho2
      refine zip_begins2 (begins_list a its.toArray) (begins_tuple b its2.toArray) p1.isList p2 fun h' hz hTI hTO h1 h2 hsz hk => wpAny_pyIter_zip hz ?_
      have I2 : Inv X pins σ H1 { s1 with heap := h' } := I1.kept (t' := s1.toks) hk
      refine ⟨s1.heap.objs.size + 4, [s1.heap.objs.size + 4, s1.heap.objs.size + 2, s1.heap.objs.size + 3, s1.heap.objs.size, s1.heap.objs.size + 1], _, _, H1, rfl, I2, turn_zipLT (zip_sep2 (fp1 := [a]) (fp2 := [b]) (by simpa using la) (by simpa using lb)) (Nat.ne_of_lt la) (Nat.ne_of_lt (Nat.lt_succ_of_lt lb)), ⟨hz, hTI, ⟨_, _, hTO⟩, ⟨_, h1, rfl, rfl⟩, ⟨_, h2, rfl, rfl⟩⟩, fun c hcm => ?_, q⟩
      have e' : c = s1.heap.objs.size + 4 ∨ c = s1.heap.objs.size + 2 ∨ c = s1.heap.objs.size + 3 ∨ c = s1.heap.objs.size ∨ c = s1.heap.objs.size + 1 := by simpa using hcm
      have hle : s1.heap.objs.size ≤ c := by
        rcases e' with z | z | z | z | z
        · rw [z]; exact Nat.le_add_right _ _
        · rw [z]; exact Nat.le_add_right _ _
        · rw [z]; exact Nat.le_add_right _ _
        · rw [z]; exact Nat.le_refl _
        · rw [z]; exact Nat.le_add_right _ _
      exact I1.fpOk hle (I1.hok.fresh hle)
theorem walk_zipLT {K : PySem.W.Frag} {a b : Addr} {xs ys : List V} {n : Nat} (h1 : xs.length = n) (h2 : ys.length = n) : Walk (ItzLT K a b) n (fun H => SqL K H a xs ∧ SqT K H b ys) (YPair (fun i => xs[i]?) (fun i => ys[i]?)) := by
  refine ⟨fun i _ hi q => ?_, fun _ q => ⟨xs, ys, q.1, q.2, by omega, by omega, by omega⟩, fun i H v H' _ q y => ?_⟩
  · have h1 : i < xs.length := by omega
    have h2 : i < ys.length := by omega
    exact ⟨xs, ys, xs[i], ys[i], q.1, q.2, by simp [h1], by simp [h2]⟩
  · obtain ⟨T, x, z, h1, h2, h3, h4, h5⟩ := y
    exact ⟨T, x, z, h1, h2, h3, h4 xs q.1, h5 ys q.2⟩
end VD
namespace VD
open PySem PySem.Spec PyProof.Rows L2
/-! ### a list comprehension whose element may raise -/
/-- the block's context, its wish about exceptions given -/
abbrev blkX (X : Cx) (s : Shared) (H : Hp) (scope : Scope) (ce : Env) (fp : List Addr) (xe : Value → Shared → Prop) : Cx := { X.blk s H scope ce fp with xe := xe }
section
variable {X : Cx} {pins : List (Addr × Obj)} {σ : L2.St} {H3 : Hp} {s3 : Shared} {scope : Scope} {ce : Env} {fp : List Addr} {E : XK}
theorem blk_passes (hs : X.stack = X.env :: X.outer) (hf : X.env.frame = some X.env.locals) (tk : L2.Takes X (fun cls d _ H => E cls d H)) (I3 : Inv X pins σ H3 s3) (cL : ce.locals = s3.heap.objs.size) (cf : ce.frame = X.env.frame)
    (f3 : ∀ b ∈ fp, FpOk X pins H3 b ∧ b < s3.heap.objs.size) :
    Passes (L2.CX X.prog X.w) (blkX X s3 H3 scope ce fp (notedBy (model X.prog X.w) X.A ce (CompFails (model X.prog X.w) X.A X.xe ce))) E := by
  intro pins' σ' H s u s' I c
  obtain ⟨a, B, H', cls, d, rfl, fl, hok, ub, na, os, ag, hE⟩ := c
  have fl : HandSPX.FlyingZ B X.stack a (Zc cls d) s'.heap := fl
  have ub : UB (frs X.stack) H H' s.heap B s'.heap := ub
  have base : Un (frs X.stack) fp H3 H s3.heap s.heap := I.base
  have ltC : ∀ b o, s3.heap.get? b = some o → b ≠ ce.locals := fun b o e => by
    rw [cL]
    exact Nat.ne_of_lt (Heap.lt_size e)
  have nfC : ce.locals ∉ frs X.stack := fun hm => by
    obtain ⟨_, o', e', _⟩ := I3.stack.mem hm
    exact ltC _ _ e' rfl
  obtain ⟨m, ⟨oC, es, ep, hoC, hdC, r⟩, _⟩ := I.loc
  have hoC : s.heap.get? ce.locals = some oC := hoC
  have freeC : H ce.locals = none := I.free
  have hBC := ub.keep _ _ hoC freeC nfC
  have hH'C := ub.free _ _ hoC freeC
  have hfr : X.A.frames = some (X.env :: X.outer) := by rw [I3.ok.frames, hs]
  rw [hs] at fl
  show wpAny _ X.A (noteFrame (.ref a) ce) _ _ s'
  rw [noteFrame_env _ cf]
  refine HandSPX.looks_onZ Zc.steady hfr hf fl fun h1 hh up1 => ?_
  refine ⟨m, ⟨oC, es, ep, hh.1 _ _ hBC, hdC, r⟩, fun h2 m2 hn2 hs2 => ?_⟩
  have hs2 : Heap.SameBut ce.locals h1 h2 := hs2
  obtain ⟨B', b1, b2⟩ := restrict B fun b => decide (b ≠ ce.locals)
  have ofB : ∀ b o, B'.get? b = some o → b ≠ ce.locals ∧ B.get? b = some o := fun b o e => by
    by_cases q : b = ce.locals
    · rw [b2 b (by simp [q])] at e
      cases e
    · exact ⟨q, by rw [← b1 b (by simp [q])]; exact e⟩
  have toB : ∀ b o, b ≠ ce.locals → B.get? b = some o → B'.get? b = some o := fun b o q e => by
    rw [b1 b (by simp [q])]
    exact e
  have noB : ∀ b, B.get? b = none → B'.get? b = none := fun b e => by
    cases q : B'.get? b with
    | none => rfl
    | some o =>
      have z := (ofB b o q).2
      rw [e] at z
      cases z
  obtain ⟨k1, k2, k3, k4⟩ := hh
  have st2 : B'.StaysIn h2 := fun b o e => (hs2.2 b (ofB b o e).1).trans (k1 b o (ofB b o e).2)
  have ff2 : h2.FunFrames B' (X.env :: X.outer) := Heap.FunFrames.sameBut hs2 hn2 (funFrames_none k3 fun L hL => noB L (k3.mem hL).1)
  obtain ⟨oe, vs, T, oT, ts, he, hz, hd, h1', hnT, hTe, hT, hdT, h3'⟩ := k4
  have hoC1 := k1 _ _ hBC
  have aC : a ≠ ce.locals := fun e => by
    rw [e, hoC1] at he
    cases he
    rw [hdC] at hd
    cases hd
  have TC : T ≠ ce.locals := fun e => by
    rw [e, hoC1] at hT
    cases hT
    rw [hdC] at hdT
    cases hdT
  have tr2 : HandSPX.TracedZ h2 B' a (Zc cls d) (rawInt X.env.locals) := ⟨oe, vs, T, oT, ts, (hs2.2 a aC).trans he, hz, hd, h1', noB _ hnT, hTe, (hs2.2 T TC).trans hT, hdT, h3'⟩
  unfold PySem.passOn
  refine wpAny_bind (wpAny_field (s := { s' with heap := h2 }) ((hs2.2 a aC).trans he) hd h1' ?_)
  rw [if_neg (show ¬ ((Value.ref T == Value.none) = true) from by simp)]
  rw [cf, hf]
  refine wpAny_bind (HandSPX.setFlight_onZ (s := { s' with heap := h2 }) ⟨st2, noB _ k2, ff2, tr2⟩ fun h3 hh3 up3 => wpAny_throw (tk _ _ ?_))
  have up3 : h2.UpToSlots h3 := up3
  obtain ⟨G, g1, g2⟩ := restrict h3 fun b => (B'.get? b).isSome || decide (b ∈ frs X.stack)
  have st : B'.StaysIn h3 := hh3.1
  have gB : ∀ b o, B'.get? b = some o → G.get? b = some o := fun b o e => by
    rw [g1 b (by simp [e])]
    exact st b o e
  have gF : ∀ b, b ∈ frs X.stack → G.get? b = h3.get? b := fun b hb => g1 b (by simp [hb])
  have og : ∀ b o, G.get? b = some o → h3.get? b = some o ∧ ((B'.get? b).isSome = true ∨ b ∈ frs X.stack) := fun b o e => by
    cases q : ((B'.get? b).isSome || decide (b ∈ frs X.stack)) with
    | false => rw [g2 b q] at e; cases e
    | true =>
      rw [g1 b q] at e
      exact ⟨e, by simpa [Bool.or_eq_true] using q⟩
  have slots : ∀ b o, s3.heap.get? b = some o → b ∈ frs X.stack → b ∉ fp → ∃ sl, G.get? b = some { o with slots := sl } := fun b o e hb hx => by
    obtain ⟨_, o', e', hnf⟩ := I3.stack.mem hb
    rw [e] at e'
    cases e'
    obtain ⟨sl, q1⟩ := base.slot b o e (I3.stkFree b hb) hb hx
    obtain ⟨sl2, q2⟩ := ub.slot b _ q1 hb
    obtain ⟨sl3, q3⟩ := up1 b _ q2 hnf
    have q4 : h2.get? b = _ := (hs2.2 b (ltC b o e)).trans q3
    obtain ⟨sl4, q5⟩ := up3 b _ q4 hnf
    exact ⟨sl4, by rw [gF b hb]; exact q5⟩
  have U : Un (frs X.stack) fp H3 H' s3.heap G := by
    refine ⟨fun b o e n hb hx => ?_, fun b o e n hb hx => slots b o e hb hx, fun b o e n hx => ?_, fun b o e hx => ?_, fun b xs e => ub.tups _ _ (base.tups _ _ e), fun b o x e => ub.frzs _ _ _ (base.frzs _ _ _ e), fun b ps e => ?_⟩
    · exact gB b o (toB b o (ltC b o e) (ub.keep b o (base.keep b o e n hb hx) (base.free b o e n hx) hb))
    · obtain ⟨o', q⟩ := base.there b o e hx
      exact ub.free b o' q (base.free b o e n hx)
    · by_cases hb : b ∈ frs X.stack
      · obtain ⟨sl, q⟩ := slots b o e hb hx
        exact ⟨_, q⟩
      · obtain ⟨o', q⟩ := base.there b o e hx
        obtain ⟨o'', q2⟩ := ub.there b o' q hb
        exact ⟨o'', gB b o'' (toB b o'' (ltC b o e) q2)⟩
    · obtain ⟨m1, q1⟩ := base.tbls b ps e
      obtain ⟨m2, q2⟩ := ub.tbls b _ q1
      exact ⟨m1 ++ m2, by rw [q2, Array.append_assoc]⟩
  have hokG : HOk X.prog X.w H' G := fun b o q => (hok b o q).stay (fun c u hc r => gB c u (toB c u (fun e => by
    rcases hc with hc | hc
    · rw [← hc, e, hH'C] at q; cases q
    · rw [e, hH'C] at hc; cases hc) r)) (fun _ r => r) fun _ _ r => r
  have J := I3.call (ch := fp) (g' := s'.gens) (t' := s'.toks) (d' := s'.drawn) U hokG ag fun b hb => ⟨(f3 b hb).1.2.2.2.1, (f3 b hb).1.2.1, (f3 b hb).1.2.2.2.2.1, (f3 b hb).1.2.2.2.2.2⟩
  refine ⟨a, B', _, pins, σ, H', cls, d, rfl, J, fun b o e hb => ?_, Heap.UpToSlots.of_keeps fun b o e => (og b o e).1, .inr (.inr (by rw [hs]; exact hh3)), na, os.trans I.os, ag, hE⟩
  obtain ⟨e', h⟩ := og b o e
  rcases h with h | h
  · obtain ⟨o', q⟩ := Option.isSome_iff_exists.mp h
    have z := st b o' q
    rw [e'] at z
    cases z
    exact q
  · exact absurd h hb
end
section
variable {X : Cx} {E : XK}
theorem pe_lcX {elt tg iter : Expr} {ifs : List Expr} {scope : Scope} {own : List (Str × Nat)} {pos : Pos} {wi : TI} {g : TG} {tt : TT} {te : TE} (hst : X.stack = X.env :: X.outer) (hfr : X.env.frame = some X.env.locals) (tk : L2.Takes X (fun cls d _ H => E cls d H))
    (hc : X.calm = true) (hN : X.N.Nodup) (hi : PI X tg iter wi) (ok : BlkOk X.N X.env.scope scope own)
    (hg : ∀ (s : Shared) (H : Hp) (C : Addr) (cl : List (Str × Addr)) (fp : List Addr) (xe : Value → Shared → Prop), PG (blkX X s H scope (compEnvC scope cl C X.env) fp xe) tg g)
    (ht : ∀ (s : Shared) (H : Hp) (C : Addr) (cl : List (Str × Addr)) (fp : List Addr) (xe : Value → Shared → Prop), PTs (blkX X s H scope (compEnvC scope cl C X.env) fp xe) ifs tt)
    (he : ∀ (s : Shared) (H : Hp) (C : Addr) (cl : List (Str × Addr)) (fp : List Addr) (xe : Value → Shared → Prop), Passes (L2.CX X.prog X.w) (blkX X s H scope (compEnvC scope cl C X.env) fp xe) E → PE (blkX X s H scope (compEnvC scope cl C X.env) fp xe) elt te)
    (hs : ∀ x, foldedSetIterable iter X.env x = pure x := by intro _; rfl) :
    PE X (.ListComp elt [⟨tg, iter, ifs, 0⟩] scope pos) (tLc wi g tt te (own.map (·.2))) := by
  refine ⟨fun pins s σ H Q I h => ?_⟩
  rw [eval_ListComp]
  have hfree : ∀ y ∈ scope.names, y.2 = .free → ∃ c, X.env.cells.lookup y.1 = some c := fun y hy e => by
    rcases ok.free y hy e with k | k
    · exact I.ok.has _ (.inl k)
    · exact I.ok.has _ (.inr k)
  refine comprehension_at (use := none) rfl hs (closure_ok hfree) ok.kind (fun y hy e => by rw [ok.uniq y hy, e])
    (thn (hi.run pins s σ H _ I h) fun xv s1 hx => thn hx fun itv s2 h2 => ?_)
  obtain ⟨it, fp, tn, J, H2, e, I2, T, st2, f2, q⟩ := h2
  subst e
  refine wpAny_newObj_type (newEnv_comp ?_) (by show 0 ≤ sizeLine; decide)
  generalize hD : s2.heap.objs.size = D
  have hDn : H2 D = none := I2.hok.fresh (Nat.le_of_eq hD)
  obtain ⟨W, ⟨m0, w0⟩, turn⟩ := q D hDn
  generalize hs3 : ({ s2 with heap := s2.heap.push { cls := .type "list", data := .seq ([] : List Value).toArray } } : Shared) = s3
  have I3 : Inv X pins σ (upd H2 D (.lst [])) s3 := by
    rw [← hs3]
    refine I2.laid (t' := s2.toks) (fun b o e => Heap.get?_push_of_some _ e) (Nat.le_of_eq hD) ⟨Nat.zero_le _, [], 0, .nil, ?_⟩
    rw [← hD]
    exact Heap.get?_push_size _ rfl
  have h3 : s3.heap = s2.heap.push { cls := .type "list", data := .seq ([] : List Value).toArray } := by rw [← hs3]
  have sz : ∀ b ∈ fp, b < s2.heap.objs.size := fun b hb => by
    obtain ⟨o, e, _⟩ := T.obj _ _ st2 b hb
    exact Heap.lt_size e
  have f3 : ∀ b ∈ fp, FpOk X pins (upd H2 D (.lst [])) b ∧ b < s3.heap.objs.size := fun b hb => by
    have hlt := sz b hb
    refine ⟨⟨?_, (f2 b hb).2⟩, by rw [h3, Heap.size_push]; exact Nat.lt_succ_of_lt hlt⟩
    rw [upd_ne (by rw [← hD]; exact Nat.ne_of_lt hlt)]
    exact (f2 b hb).1
  have st3 : tn 0 s3.heap := T.keep _ _ _ st2 fun b _ o e => by rw [h3]; exact Heap.get?_push_of_some _ e
  have I4 := block_start I3 ok hN f3
  have pg := hg s3 (upd H2 D (.lst [])) s3.heap.objs.size (cellsFrom (s3.heap.objs.size + 1) scope.names (cloFrom X.env.cells scope.names [])) fp
  have pt := ht s3 (upd H2 D (.lst [])) s3.heap.objs.size (cellsFrom (s3.heap.objs.size + 1) scope.names (cloFrom X.env.cells scope.names [])) fp
  have pe := he s3 (upd H2 D (.lst [])) s3.heap.objs.size (cellsFrom (s3.heap.objs.size + 1) scope.names (cloFrom X.env.cells scope.names [])) fp
  show codeAny _ _ (.compStart (.ListComp elt [⟨tg, iter, ifs, 0⟩] scope pos) 0 (.ref it) (.ref D) (compEnvC scope (cellsFrom (s3.heap.objs.size + 1) scope.names (cloFrom X.env.cells scope.names [])) s3.heap.objs.size X.env)) (compEnds (model X.prog X.w) X.A X.xe none (EP X pins σ Q) (.ref D) (compEnvC scope (cellsFrom (s3.heap.objs.size + 1) scope.names (cloFrom X.env.cells scope.names [])) s3.heap.objs.size X.env)) { s3 with heap := pushCells (s3.heap.push { cls := .type "dict", data := .dict #[] }) scope.names }
  have nfp : ∀ b ∈ fp, (upd H2 D (.lst [])) b = none := fun b hb => (f3 b hb).1.1
  generalize hce : compEnvC scope (cellsFrom (s3.heap.objs.size + 1) scope.names (cloFrom X.env.cells scope.names [])) s3.heap.objs.size X.env = ce at I4 pg pt pe ⊢
  have cL : ce.locals = s3.heap.objs.size := by subst hce; rfl
  have cf : ce.frame = X.env.frame := by subst hce; rfl
  generalize hH3 : upd H2 D (.lst []) = H3 at I3 I4 pg pt pe w0 nfp f3
  have px := blk_passes (scope := scope) hst hfr tk I3 cL cf f3
  generalize hxe : notedBy (model X.prog X.w) X.A ce (CompFails (model X.prog X.w) X.A X.xe ce) = xe at px
  have pe := pe xe px
  have pg := pg xe
  have pt := pt xe
  generalize hs4 : ({ s3 with heap := pushCells (s3.heap.push { cls := .type "dict", data := .dict #[] }) scope.names } : Shared) = s4 at I4 ⊢
  have st4 : tn 0 s4.heap := T.keep _ _ _ st3 fun b _ o e => by rw [← hs4]; exact pushCells_keeps _ _ _ _ (Heap.get?_push_of_some _ e)
  have I4 : Inv (blkX X s3 H3 scope ce fp xe) [] (wipe σ (own.map (·.2))) H3 s4 := ⟨I4.ok.ofTry (X := blkX X s3 H3 scope ce fp xe) (pn := []) (xe := fun _ _ => False), I4.os, I4.bare, I4.base, I4.loc, I4.cell, I4.free, I4.freeC, I4.pin, I4.hok, I4.len⟩
  have stat : ∀ {σ' : L2.St} {H' : Hp} {s' : Shared}, Inv (blkX X s3 H3 scope ce fp xe) [] σ' H' s' → (∀ b ∈ fp, H' b = none) → ∀ b ∈ fp, FpOk (blkX X s3 H3 scope ce fp xe) [] H' b := fun {σ' H' s'} I' hn b hb =>
    ⟨hn b hb, (I'.ok.exf b hb).1, I'.ok.exfs b hb, .inl hb, fun x c e => (I'.ok.exf b hb).2 x c e, fun p hp => absurd (show p ∈ ([] : List (Addr × Obj)) ++ [] from hp) (by simp)⟩
  have loop : codeAny (model X.prog X.w) X.A (.compLoop (.ListComp elt [⟨tg, iter, ifs, 0⟩] scope pos) 0 (.ref it) (.ref D) ce) (compEnds (model X.prog X.w) X.A X.xe none (EP X pins σ Q) (.ref D) ce) s4 := by
    refine compLoop_any (fun n s' => ∃ i H', Inv (blkX X s3 H3 scope ce fp xe) [] (wipe σ (own.map (·.2))) H' s' ∧ tn i s'.heap ∧ (∀ b ∈ fp, H' b = none) ∧ W i n H') ?_ m0 ⟨0, H3, I4, st4, nfp, w0⟩
    rintro n s5 ⟨i, H5, I5, st5, n5, w5⟩
    have exe : (notedBy (model X.prog X.w) X.A ce fun e s' => compEnds (model X.prog X.w) X.A X.xe none (EP X pins σ Q) (.ref D) ce (.error e) s') = xe := by rw [← hxe]; rfl
    rw [exe]
    rcases turn i n H5 w5 with ⟨stop, qq⟩ | ⟨go, Nx, hNx, step⟩
    · have td := T.done (blkX X s3 H3 scope ce fp xe) rfl rfl rfl hc i [] s5 _ H5 (fun _ _ => False) I5 (stat I5 n5) st5 stop
      refine thnF td fun r s6 ⟨hr, I6⟩ => ?_
      subst hr
      have I7 : Inv X pins σ H5 s6 := I3.call' (ch := fp) I6.os I6.base I6.hok I6.bare fun b hb => ⟨(f3 b hb).1.2.2.2.1, (f3 b hb).1.2.1, (f3 b hb).1.2.2.2.2.1, (f3 b hb).1.2.2.2.2.2⟩
      have nC : H5 s3.heap.objs.size = none := by
        have z : H5 ce.locals = none := I6.free
        rw [cL] at z
        exact z
      obtain ⟨m, hn, _⟩ := I6.loc
      have hn : s6.heap.Ns ce.locals m := hn
      have f := I3.fpOk (H' := H5) (Nat.le_refl _) nC
      rw [← cL] at f
      obtain ⟨f0, f1, f2, f3, f4, f5⟩ := f
      refine ⟨m, hn, fun h'' sb => ⟨.ref D, H5, I7.turned (t' := s6.toks) (fun b o hb e => (sb.2 b hb).trans e) f0 f1 f3 f4 f5, rfl, qq⟩⟩
    · have ti := T.item (blkX X s3 H3 scope ce fp xe) rfl rfl rfl hc i [] s5 _ H5 xe I5 (stat I5 n5) st5 go
      refine thn ti fun r s6 ⟨u, hr, h6⟩ => ?_
      subst hr
      refine thn h6 fun _ s7 ⟨x, H7, I7, r7, y7, st7, n7⟩ => ?_
      have I7' := I7.pinned (stat I7 n7) (T.obj _ _ st7)
      refine thn (pg.run _ s7 _ H7 x u _ I7' r7 (step x H7 y7)) fun _ s8 ⟨σ8, H8, I8, hw8, q8⟩ => ?_
      refine thn (pt.run _ s8 σ8 H8 _ I8 q8) fun b s9 ⟨H9, I9, q9⟩ => ?_
      have fin : ∀ {s' : Shared} {H' : Hp}, Inv (blkX X s3 H3 scope ce fp xe) ([] ++ pinsAt fp s7.heap) σ8 H' s' → Nx H' → ∃ m, m < n ∧ ∃ i H', Inv (blkX X s3 H3 scope ce fp xe) [] (wipe σ (own.map (·.2))) H' s' ∧ tn i s'.heap ∧ (∀ b ∈ fp, H' b = none) ∧ W i m H' := fun {s' H'} I' nx => by
        obtain ⟨m', hm, w'⟩ := hNx H' nx
        have pin' : ∀ b ∈ fp, ∀ o, s7.heap.get? b = some o → s'.heap.get? b = some o ∧ H' b = none := fun b hb o e =>
          let z := I'.pin (b, o) (List.mem_append_right _ (List.mem_append_right _ (mem_pinsAt hb e)))
          ⟨z.1, z.2.1⟩
        have hl : (wipe σ (own.map (·.2))).length = σ8.length := by rw [← hw8, wipe_length]
        refine ⟨m', hm, i + 1, H', (I'.unpinned (pins := [])).weak hl (fun j v e => ?_), T.keep _ _ _ st7 fun b hb o e => (pin' b hb o e).1, fun b hb => ?_, w'⟩
        · rw [← hw8] at e
          exact (wipe_some e).1
        · obtain ⟨o, e, _⟩ := T.obj _ _ st7 b hb
          exact (pin' b hb o e).2
      cases b with
      | false =>
        simp only [Bool.false_eq_true, if_false] at q9 ⊢
        exact fin I9 q9
      | true =>
        simp only [if_true] at q9 ⊢
        refine thn (pe.run _ s9 σ8 H9 _ I9 q9) fun z s10 ⟨yv, H10, I10, r10, acc, hD10, hz10, nx⟩ => ?_
        exact app_ok (X := blkX X s3 H3 scope ce fp xe) I10 hD10 hz10 r10 fun s11 I11 => fin I11 nx
  exact codeAny_compStart_list loop (T.self X.A 0 _ _ _ st4 loop)
end
end VD
namespace VD
open PySem PySem.Spec PyProof.Rows L2
/-! ### calls -/
abbrev callO (dx b q : Addr) (op : Int) : HO := .ins c_Call dx [("operation", .int op), ("numbers", .ref b), ("rows", .ref q)]
/-- a list of rows of ints -/
def LR (H : Hp) (a : Addr) (rows : List (List Int)) : Prop := ∃ as : List Addr, H a = some (.lst (as.map V.ref)) ∧ Paired (fun b r => LI H b r) as rows
theorem LR.same {H H' : Hp} (e : Same H H') {a : Addr} {rows : List (List Int)} (h : LR H a rows) : LR H' a rows := by
  obtain ⟨as, h1, h2⟩ := h
  exact ⟨as, e _ _ h1, Paired.mono (fun b w => e _ _) h2⟩
/-- a call's object: its operation, numbers, rows -/
def CallAt (H : Hp) (a : Addr) (op : Int) (ns : List Int) (rows : List (List Int)) : Prop := ∃ dx b q, H a = some (callO dx b q op) ∧ LI H b ns ∧ LR H q rows
theorem CallAt.same {H H' : Hp} (e : Same H H') {a : Addr} {op : Int} {ns : List Int} {rows : List (List Int)} (h : CallAt H a op ns rows) : CallAt H' a op ns rows := by
  obtain ⟨dx, b, q, h1, h2, h3⟩ := h
  exact ⟨dx, b, q, e _ _ h1, e _ _ h2, h3.same e⟩
/-! ### tables -/
abbrev tableO (dx q : Addr) (n : Nat) : HO := .ins c_Table dx [("names", .ref q), ("copies", nv n)]
/-- the names by kinds -/
def tn (z : Vbndaa.Table) : List (List (List Nat)) := [z.deck.suits, z.deck.ranks, z.deck.extras, z.players]
def most : List Nat := [6, 15, 4, 6]
/-- how many names there may be; the number of copies -/
def Wz (z : Vbndaa.Table) : Prop := z.deck.suits.length ≤ 6 ∧ z.deck.ranks.length ≤ 15 ∧ z.deck.extras.length ≤ 4 ∧ z.players.length ≤ 6 ∧ 1 ≤ z.deck.copies ∧ z.deck.copies ≤ 4 ∧
  (∀ w ∈ z.deck.suits ++ z.deck.extras, isName w = true) ∧ (∀ w ∈ z.deck.ranks, isName w = true) ∧ (∀ w ∈ z.players, isName w = true) ∧ (z.deck.suits ++ z.deck.extras).Nodup ∧ z.deck.ranks.Nodup ∧ z.players.Nodup
theorem wz_empty : Wz Vbndaa.emptyTable := by
  refine ⟨by decide, by decide, by decide, by decide, by decide, by decide, ?_, ?_, ?_, .nil, .nil, .nil⟩ <;> intro w h <;> cases h
/-- a table at t, its list of lists at q: these two may be written -/
def TbW (H : Hp) (t q : Addr) (z : Vbndaa.Table) : Prop := Wz z ∧ t ≠ q ∧ ∃ dx, H t = some (tableO dx q z.deck.copies) ∧ ∃ as : List Addr, H q = some (.lst (as.map V.ref)) ∧ Paired (fun a ws => LW (drp H [t, q]) a ws) as (tn z)
theorem TbW.wz {H : Hp} {t q : Addr} {z : Vbndaa.Table} (h : TbW H t q z) : Wz z := h.1
theorem TbW.same {H H' : Hp} (e : Same H H') {t q : Addr} {z : Vbndaa.Table} (h : TbW H t q z) : TbW H' t q z := by
  obtain ⟨w, n, dx, h1, as, h2, h3⟩ := h
  exact ⟨w, n, dx, e _ _ h1, as, e _ _ h2, Paired.mono (fun a ws h => h.same (But.drp (e.but _))) h3⟩
/-- a list of names of one kind -/
theorem TbW.kind {H : Hp} {t q : Addr} {z : Vbndaa.Table} (h : TbW H t q z) {k : Nat} {ws : List (List Nat)} (hk : (tn z)[k]? = some ws) : ∃ (dx : Addr) (as : List Addr) (a : Addr), H t = some (tableO dx q z.deck.copies) ∧ H q = some (.lst (as.map V.ref)) ∧ (as.map V.ref)[k]? = some (.ref a) ∧ LW H a ws := by
  obtain ⟨w, n, dx, h1, as, h2, h3⟩ := h
  obtain ⟨a, ha, l⟩ := pr_get' h3 hk
  exact ⟨dx, as, a, h1, h2, by rw [List.getElem?_map, ha]; rfl, l.same drp_same⟩
theorem LW.len {H : Hp} {a : Addr} {ws : List (List Nat)} (h : LW H a ws) : ∃ xs : List V, H a = some (.lst xs) ∧ xs.length = ws.length := by
  obtain ⟨as, h1, h2⟩ := h
  exact ⟨_, h1, by rw [List.length_map, h2.length]⟩
theorem LW.get {H : Hp} {a : Addr} {ws : List (List Nat)} (h : LW H a ws) {i : Nat} {w : List Nat} (hi : ws[i]? = some w) : ∃ (xs : List V) (b : Addr), H a = some (.lst xs) ∧ xs[i]? = some (.ref b) ∧ LN H b w := by
  obtain ⟨as, h1, h2⟩ := h
  obtain ⟨b, hb, l⟩ := pr_get' h2 hi
  exact ⟨_, b, h1, by rw [List.getElem?_map, hb]; rfl, l⟩
theorem wz_kind {z : Vbndaa.Table} (h : Wz z) {k : Nat} {ws : List (List Nat)} (hk : (tn z)[k]? = some ws) : ∃ m, most[k]? = some m ∧ ws.length ≤ m ∧ m ≤ 15 := by
  obtain ⟨h1, h2, h3, h4, _⟩ := h
  match k, hk with
  | 0, hk => cases hk; exact ⟨6, rfl, h1, by decide⟩
  | 1, hk => cases hk; exact ⟨15, rfl, h2, by decide⟩
  | 2, hk => cases hk; exact ⟨4, rfl, h3, by decide⟩
  | 3, hk => cases hk; exact ⟨6, rfl, h4, by decide⟩
  | n + 4, hk => simp [tn] at hk
def RetLW (Q : VK) (H : Hp) (ws : List (List Nat)) : Prop := ∀ p H', Same H H' → LW H' p ws → Q (.ref p) H'
/-- a fault flies from some heap behind H -/
def RetF (E : XK) (H : Hp) (kd pl : Nat) : Prop := ∀ H', Same H H' → Ff E H' kd pl
end VD
namespace VD
open PySem PySem.Spec PyProof.Rows L2
section
variable {P : Program} {w : World} {K : PySem.W.Frag} {mg : Str → Option Value} {base : Heap}
theorem LN.nil_lw {H : Hp} {a : Addr} (h : H a = some (.lst [])) : LW H a [] := ⟨[], h, .nil⟩
abbrev N_Table_init : List Str := ["self"]
theorem sc_Table_init : FnScope N_Table_init ["self"] (defScope s_Table_init) := ⟨rfl, rfl, rfl, by decide +kernel, rfl, by decide +kernel, by decide +kernel⟩
theorem ok_Table_init (c : Ctx K mg) : OkC P w K mg base (L2.CX P w) 1 "Table" c_Table ["self"] ((fun vs H Q _ => ∃ t dx, vs = [.ref t] ∧ H t = some (.ins c_Table dx []) ∧ ∀ q H', But [t] H H' → H q = none → TbW H' t q Vbndaa.emptyTable → Q .non H')) := by
  refine okC (f_Table_init c) (mk_Table c) (g_Table c) sc_Table_init (fun _ _ _ _ _ _ us hl => match us, hl with | [_], _ => rfl) (fun vs H Q E h => by obtain ⟨t, dx, rfl, ht, k⟩ := h; rfl) fun cdv A outer s H vs Q E hr h => ⟨_, (pss_cons (ps_fld (pv 0) (pe_lst (pa_cons (pe_lst pa_nil) (pa_cons (pe_lst pa_nil) (pa_cons (pe_lst pa_nil) (pa_cons (pe_lst pa_nil) pa_nil))))) rfl)
      (pss_one (ps_fld (pv 0) pe_int rfl))), ?_⟩
  obtain ⟨t, dx, rfl, ht, k⟩ := h
  refine ⟨Nat.zero_le _, fun a0 h0 => ⟨Nat.zero_le _, fun a1 h1 => ⟨Nat.zero_le _, fun a2 h2 => ⟨Nat.zero_le _, fun a3 h3 => ?_⟩⟩⟩⟩
  have s0 := Same.new (o := .lst []) h0
  have s1 := s0.trans (Same.new (o := .lst []) h1)
  have s2 := s1.trans (Same.new (o := .lst []) h2)
  have s3 := s2.trans (Same.new (o := .lst []) h3)
  refine ⟨by show 4 ≤ sizeLine; decide, fun q hq => ?_⟩
  have s4 := s3.trans (Same.new (o := .lst [.ref a0, .ref a1, .ref a2, .ref a3]) hq)
  refine ⟨_, rfl, t, _, _, _, rfl, s4 _ _ ht, cl_Table c, na_Table_names c, by show 0 < 1000; decide, _, rfl, t, _, _, _, rfl, upd_same, cl_Table c, na_Table_copies c, by show 1 < 1000; decide, ?_⟩
  have hqH := s3.old hq
  have tq : t ≠ q := ne_of_none ht hqH
  refine k q _ (((s4.but [t]).put (by simp)).put (by simp)) hqH ?_
  have e0 : a0 ≠ q := ne_of_none (Same.trans (Same.new h1) ((Same.new h2).trans (Same.new h3)) _ _ upd_same) hq
  have e1 : a1 ≠ q := ne_of_none (((Same.new h2).trans (Same.new h3)) _ _ upd_same) hq
  have e2 : a2 ≠ q := ne_of_none ((Same.new h3) _ _ upd_same) hq
  have e3 : a3 ≠ q := ne_of_none upd_same hq
  have f0 : a0 ≠ t := (ne_of_none ht h0).symm
  have f1 : a1 ≠ t := (ne_of_none ht (s0.old h1)).symm
  have f2 : a2 ≠ t := (ne_of_none ht (s1.old h2)).symm
  have f3 : a3 ≠ t := (ne_of_none ht (s2.old h3)).symm
  have at_ : ∀ {a : Addr} {o1 o2 o : HO} {H4 : Hp}, a ≠ t → a ≠ q → H4 a = some (.lst []) → LW (drp (upd (upd H4 t o1) t o2) [t, q]) a [] := fun {a o1 o2 o H4} n1 n2 h => LN.nil_lw (drp_at ((upd_ne n1).trans ((upd_ne n1).trans h)) (by simp [n1, n2]))
  refine ⟨wz_empty, tq, dx, upd_same, [a0, a1, a2, a3], (upd_ne tq.symm).trans ((upd_ne tq.symm).trans upd_same), .cons ?_ (.cons ?_ (.cons ?_ (.cons ?_ .nil)))⟩
  · exact at_ (o := .lst []) f0 e0 ((upd_ne e0).trans (Same.trans (Same.new h1) ((Same.new h2).trans (Same.new h3)) _ _ upd_same))
  · exact at_ (o := .lst []) f1 e1 ((upd_ne e1).trans (((Same.new h2).trans (Same.new h3)) _ _ upd_same))
  · exact at_ (o := .lst []) f2 e2 ((upd_ne e2).trans ((Same.new h3) _ _ upd_same))
  · exact at_ (o := .lst []) f3 e3 ((upd_ne e3).trans upd_same)
abbrev N_Table_many : List Str := ["self", "kind"]
theorem sc_Table_many : FnScope N_Table_many ["self", "kind"] (defScope s_Table_many) := ⟨rfl, rfl, rfl, by decide +kernel, rfl, by decide +kernel, by decide +kernel⟩
theorem ok_Table_many (c : Ctx K mg) : OkM P w K mg base (L2.CX P w) 1 c_Table "many" ["self", "kind"] ((fun vs H Q _ => ∃ t q z k ws, vs = [.ref t, nv k] ∧ TbW H t q z ∧ (tn z)[k]? = some ws ∧ Q (nv ws.length) H)) := by
  refine okM (f_Table_many c) (me_Table_many c) (cl_Table c) sc_Table_many (fun _ _ _ _ _ _ us hl => match us, hl with | [_, _], _ => rfl) (fun vs H Q E h => by obtain ⟨t, q, z, k, ws, rfl, h, hk, hQ⟩ := h; rfl) fun cdv A outer s H vs Q E hr h => ⟨_, (pss_one (ps_ret (pe_callB (lenK (K := K) rfl) (by rfl) (b_len c) boot_len (pa_cons (pe_ix (ix_listK (K := K) rfl) (pe_fldK (K := K) rfl (pv 0)) (pv 1) (fun _ _ => rfl)) pa_nil)))), ?_⟩
  obtain ⟨t, q, z, k, ws, rfl, h, hk, hQ⟩ := h
  obtain ⟨dx, as, a, h1, h2, h3, h4⟩ := h.kind hk
  obtain ⟨xs, h5, h6⟩ := h4.len
  refine ⟨_, rfl, t, _, _, _, _, rfl, h1, cl_Table c, na_Table_names c, rfl, _, rfl, q, _, (k : Int), _, rfl, rfl, SqL.of h2, atI_nat h3, a, _, rfl, .inl (SqL.of h5), ?_⟩
  rw [h6]
  exact hQ
abbrev N_Table_grid_size : List Str := ["self"]
theorem sc_Table_grid_size : FnScope N_Table_grid_size ["self"] (defScope s_Table_grid_size) := ⟨rfl, rfl, rfl, by decide +kernel, rfl, by decide +kernel, by decide +kernel⟩
theorem ok_Table_grid_size (c : Ctx K mg) : OkM P w K mg base (L2.CX P w) 2 c_Table "grid_size" ["self"] ((fun vs H Q _ => ∃ t q z, vs = [.ref t] ∧ TbW H t q z ∧ Q (nv (Vbndaa.cardsPerCopy z.deck)) H)) := by
  refine okM (f_Table_grid_size c) (me_Table_grid_size c) (cl_Table c) sc_Table_grid_size (fun _ _ _ _ _ _ us hl => match us, hl with | [_], _ => rfl) (fun vs H Q E h => by obtain ⟨t, q, z, rfl, h, hQ⟩ := h; rfl) fun cdv A outer s H vs Q E hr h => ⟨_, (pss_one (ps_ret (pe_op op_mul (pmeth (E := E0) (ok_Table_many c) (pv 0) (hr.mono (by decide)) passL (pa_cons (pgi (i_SUIT c)) pa_nil)) (pmeth (E := E0) (ok_Table_many c) (pv 0) (hr.mono (by decide)) passL (pa_cons (pgi (i_RANK_tables c)) pa_nil))))), ?_⟩
  obtain ⟨t, q, z, rfl, h, hQ⟩ := h
  obtain ⟨dx, as, a, h1, _⟩ := h.kind (k := 0) rfl
  have hw := h.wz.1
  refine ⟨_, rfl, t, _, _, rfl, h1, rfl, t, q, z, 0, _, rfl, h, rfl, _, rfl, t, _, _, rfl, h1, rfl, t, q, z, 1, _, rfl, h, rfl, ?_⟩
  exact ⟨_, _, rfl, rfl, .inl ⟨by omega, by omega⟩, hQ⟩
abbrev N_Table_first_extra : List Str := ["self"]
theorem sc_Table_first_extra : FnScope N_Table_first_extra ["self"] (defScope s_Table_first_extra) := ⟨rfl, rfl, rfl, by decide +kernel, rfl, by decide +kernel, by decide +kernel⟩
theorem ok_Table_first_extra (c : Ctx K mg) : OkM P w K mg base (L2.CX P w) 3 c_Table "first_extra" ["self"] ((fun vs H Q _ => ∃ t q z, vs = [.ref t] ∧ TbW H t q z ∧ Q (nv (z.deck.copies * Vbndaa.cardsPerCopy z.deck)) H)) := by
  refine okM (f_Table_first_extra c) (me_Table_first_extra c) (cl_Table c) sc_Table_first_extra (fun _ _ _ _ _ _ us hl => match us, hl with | [_], _ => rfl) (fun vs H Q E h => by obtain ⟨t, q, z, rfl, h, hQ⟩ := h; rfl) fun cdv A outer s H vs Q E hr h => ⟨_, (pss_one (ps_ret (pe_op op_mul (pmeth0 (E := E0) (ok_Table_grid_size c) (pv 0) (hr.mono (by decide)) passL) (pe_fldK (K := K) rfl (pv 0))))), ?_⟩
  obtain ⟨t, q, z, rfl, h, hQ⟩ := h
  obtain ⟨dx, as, a, h1, _⟩ := h.kind (k := 0) rfl
  obtain ⟨_, _, _, _, _, hc, _⟩ := h.wz
  refine ⟨_, rfl, t, _, _, rfl, h1, rfl, t, q, z, rfl, h, _, rfl, t, _, _, _, _, rfl, h1, cl_Table c, na_Table_copies c, rfl, _, _, rfl, rfl, .inr ⟨by omega, by omega⟩, ?_⟩
  have e : (Vbndaa.cardsPerCopy z.deck : Int) * (z.deck.copies : Int) = ((z.deck.copies * Vbndaa.cardsPerCopy z.deck : Nat) : Int) := by rw [Int.mul_comm]; rfl
  show Q (.int ((Vbndaa.cardsPerCopy z.deck : Int) * (z.deck.copies : Int))) H
  rw [e]
  exact hQ
abbrev N_Table_card_count : List Str := ["self"]
theorem sc_Table_card_count : FnScope N_Table_card_count ["self"] (defScope s_Table_card_count) := ⟨rfl, rfl, rfl, by decide +kernel, rfl, by decide +kernel, by decide +kernel⟩
theorem ok_Table_card_count (c : Ctx K mg) : OkM P w K mg base (L2.CX P w) 4 c_Table "card_count" ["self"] ((fun vs H Q _ => ∃ t q z, vs = [.ref t] ∧ TbW H t q z ∧ Q (nv (Vbndaa.deckSize z.deck)) H)) := by
  refine okM (f_Table_card_count c) (me_Table_card_count c) (cl_Table c) sc_Table_card_count (fun _ _ _ _ _ _ us hl => match us, hl with | [_], _ => rfl) (fun vs H Q E h => by obtain ⟨t, q, z, rfl, h, hQ⟩ := h; rfl) fun cdv A outer s H vs Q E hr h => ⟨_, (pss_one (ps_ret (pe_op op_add (pmeth0 (E := E0) (ok_Table_first_extra c) (pv 0) (hr.mono (by decide)) passL) (pmeth (E := E0) (ok_Table_many c) (pv 0) (hr.mono (by decide)) passL (pa_cons (pgi (i_EXTRA c)) pa_nil))))), ?_⟩
  obtain ⟨t, q, z, rfl, h, hQ⟩ := h
  obtain ⟨dx, as, a, h1, _⟩ := h.kind (k := 0) rfl
  refine ⟨_, rfl, t, _, _, rfl, h1, rfl, t, q, z, rfl, h, _, rfl, t, _, _, rfl, h1, rfl, t, q, z, 2, _, rfl, h, rfl, _, _, rfl, rfl, hQ⟩
abbrev N_Table_player_count : List Str := ["self"]
theorem sc_Table_player_count : FnScope N_Table_player_count ["self"] (defScope s_Table_player_count) := ⟨rfl, rfl, rfl, by decide +kernel, rfl, by decide +kernel, by decide +kernel⟩
theorem ok_Table_player_count (c : Ctx K mg) : OkM P w K mg base (L2.CX P w) 2 c_Table "player_count" ["self"] ((fun vs H Q _ => ∃ t q z, vs = [.ref t] ∧ TbW H t q z ∧ Q (nv (z.players.length)) H)) := by
  refine okM (f_Table_player_count c) (me_Table_player_count c) (cl_Table c) sc_Table_player_count (fun _ _ _ _ _ _ us hl => match us, hl with | [_], _ => rfl) (fun vs H Q E h => by obtain ⟨t, q, z, rfl, h, hQ⟩ := h; rfl) fun cdv A outer s H vs Q E hr h => ⟨_, (pss_one (ps_ret (pmeth (E := E0) (ok_Table_many c) (pv 0) (hr.mono (by decide)) passL (pa_cons (pgi (i_PLAYER c)) pa_nil)))), ?_⟩
  obtain ⟨t, q, z, rfl, h, hQ⟩ := h
  obtain ⟨dx, as, a, h1, _⟩ := h.kind (k := 0) rfl
  exact ⟨_, rfl, t, _, _, rfl, h1, rfl, t, q, z, 3, _, rfl, h, rfl, hQ⟩
def ov : Option Nat → V
  | some k => nv k
  | none => .non
def kw : List (List Nat) := ["suit", "rank", "extra", "player"].map Vbndaa.toBytes
def kindW (w : List Nat) : Option Nat := if w = Vbndaa.toBytes "suit" then some 0 else if w = Vbndaa.toBytes "rank" then some 1 else if w = Vbndaa.toBytes "extra" then some 2 else if w = Vbndaa.toBytes "player" then some 3 else none
theorem kindW_at {w : List Nat} {i : Nat} (h : kw[i]? = some w) (n : ∀ j x, j < i → kw[j]? = some x → w ≠ x) : kindW w = some i := by
  unfold kindW
  match i, h with
  | 0, h => cases h; rfl
  | 1, h => cases h; rfl
  | 2, h => cases h; rfl
  | 3, h => cases h; rfl
  | k + 4, h => simp [kw] at h
theorem kindW_no {w : List Nat} (n : ∀ j x, j < 4 → kw[j]? = some x → w ≠ x) : kindW w = none := by
  unfold kindW
  rw [if_neg (n 0 _ (by decide) rfl), if_neg (n 1 _ (by decide) rfl), if_neg (n 2 _ (by decide) rfl), if_neg (n 3 _ (by decide) rfl)]
abbrev N_kind_of : List Str := ["word", "kind", "text"]
theorem sc_kind_of : FnScope N_kind_of ["word"] (defScope s_kind_of) := ⟨rfl, rfl, rfl, by decide +kernel, rfl, by decide +kernel, by decide +kernel⟩
theorem ok_kind_of (c : Ctx K mg) : OkF P w K mg base (L2.CX P w) 2 "kind_of" ["word"] ((fun vs H Q _ => ∃ (a : Addr) (wd : List Nat), vs = [.ref a] ∧ LN H a wd ∧ wd.length ≤ 100000 ∧ RetV Q H (ov (kindW wd)))) := by
  refine okF (f_kind_of c) (g_kind_of c) sc_kind_of (fun _ _ _ _ _ _ us hl => match us, hl with | [_], _ => rfl) (fun vs H Q E h => by obtain ⟨a, wd, rfl, ha, hz, k⟩ := h; rfl) fun cdv A outer s H vs Q E hr h => ⟨_, (pss_cons (ps_for PassesOwn.leaving rfl (pi_enumT rfl (by rfl) (b_enumerate c) (pa_cons (pgr (g_KIND_WORDS c)) pa_nil)) (pg_tup rfl (pgs_cons (pg_name (i := 1) sc_kind_of.nd rfl (Or.inl rfl)) (pgs_cons (pg_name (i := 2) sc_kind_of.nd rfl (Or.inl rfl)) pgs_nil))) (pss_one (ps_if (pt_cmpR (eqDK (K := K) rfl hr.units) (pv 0) (pcall (E := E0) (ok_bytes_of c) (hr.mono (by decide)) passL (pa_cons (pv 2) pa_nil)) (nomark _)) (pss_one (ps_ret (pv 1))) pss_nil)))
      (pss_one (ps_ret pe_non))), ?_⟩
  obtain ⟨a, wd, rfl, ha, hz, k⟩ := h
  refine ⟨t_KIND_WORDS, _, rfl, tp_217 c H, for_it walk_enumT (fun i σ H' => ∃ (x y : Option V), σ = [some (.ref a), x, y] ∧ Same H H' ∧ ∀ j x, j < i → kw[j]? = some x → wd ≠ x) ⟨none, none, rfl, Same.refl _, fun j x h => absurd h (Nat.not_lt_zero _)⟩ (fun i σ H' _ _ => tp_217 c H') ?_ ?_⟩
  · rintro i v σ H1 H2 hi ⟨x0, y0, rfl, s1, hn⟩ ⟨T, x, y, rfl, hT, rfl, hx, hy⟩
    obtain rfl : x = nv i := (Option.some.inj hx).symm
    obtain ⟨z, rfl, wz, hw, hzl⟩ : ∃ z : Str, y = .str z ∧ ∃ wz, kw[i]? = some wz ∧ z.cps.toList = wz ∧ wz.length ≤ 100000 := by
      match i, hy with
      | 0, hx => cases hx; exact ⟨_, rfl, _, rfl, by decide +kernel, by decide +kernel⟩
      | 1, hx => cases hx; exact ⟨_, rfl, _, rfl, by decide +kernel, by decide +kernel⟩
      | 2, hx => cases hx; exact ⟨_, rfl, _, rfl, by decide +kernel, by decide +kernel⟩
      | 3, hx => cases hx; exact ⟨_, rfl, _, rfl, by decide +kernel, by decide +kernel⟩
      | n + 4, hx => simp at hx
    have s2 := s1.trans (Same.new (o := .tup [.int (i : Nat), .str z]) hT)
    refine ⟨T, _, rfl, SqT.of upd_same, rfl, _, _, rfl, _, _, rfl, rfl, ?_⟩
    refine ⟨_, rfl, _, rfl, z, wz, rfl, hzl.1, hzl.2, fun p H' s3 hp hv => ?_⟩
    refine ⟨dw wd, dw wz, dp_w ((s2.trans s3) _ _ ha), dp_w hv, sh_dw _, sh_dw _, _, rfl, ite2 (fun q => ?_) (fun q => ?_)⟩
    · rw [eqv_dw, beq_iff_eq] at q
      subst q
      have := k H' (s2.trans s3)
      rw [kindW_at hw hn] at this
      exact ⟨_, rfl, this⟩
    · rw [eqv_dw, beq_iff_eq] at q
      refine ⟨_, _, rfl, s2.trans s3, fun j x' hj hx' => ?_⟩
      by_cases e : j = i
      · subst e
        rw [hw] at hx'
        cases hx'
        exact q
      · exact hn j x' (by omega) hx'
  · rintro σ H1 ⟨x0, y0, rfl, s1, hn⟩
    have := k H1 s1
    rw [kindW_no hn] at this
    exact this
def used (z : Vbndaa.Table) (k : Nat) : List (List Nat) := match k with
  | 0 => z.deck.suits ++ z.deck.extras
  | 1 => z.deck.ranks
  | 2 => z.deck.suits ++ z.deck.extras
  | _ => z.players
abbrev N_used_names : List Str := ["table", "kind"]
theorem sc_used_names : FnScope N_used_names ["table", "kind"] (defScope s_used_names) := ⟨rfl, rfl, rfl, by decide +kernel, rfl, by decide +kernel, by decide +kernel⟩
theorem ok_used_names (c : Ctx K mg) : OkF P w K mg base (L2.CX P w) 1 "used_names" ["table", "kind"] ((fun vs H Q _ => ∃ t q z k, vs = [.ref t, nv k] ∧ TbW H t q z ∧ k < 4 ∧ RetLW Q H (used z k))) := by
  refine okF (f_used_names c) (g_used_names c) sc_used_names (fun _ _ _ _ _ _ us hl => match us, hl with | [_, _], _ => rfl) (fun vs H Q E h => by obtain ⟨t, q, z, k, rfl, h, hk, hQ⟩ := h; rfl) fun cdv A outer s H vs Q E hr h => ⟨_, (pss_cons (ps_if (PW.pt (pw_or (pt_cmpR op_eq (pv 1) (pgi (i_SUIT c)) (nomark _)) (pw_or1 (pt_cmpR op_eq (pv 1) (pgi (i_EXTRA c)) (nomark _))))) (pss_one (ps_ret (pe_op op_cat (pe_ix (ix_listK (K := K) rfl) (pe_fldK (K := K) rfl (pv 0)) (pgi (i_SUIT c)) (fun _ _ => rfl)) (pe_ix (ix_listK (K := K) rfl) (pe_fldK (K := K) rfl (pv 0)) (pgi (i_EXTRA c)) (fun _ _ => rfl))))) pss_nil)
      (pss_one (ps_ret (pe_ix (ix_listK (K := K) rfl) (pe_fldK (K := K) rfl (pv 0)) (pv 1) (fun _ _ => rfl))))), ?_⟩
  obtain ⟨t, q, z, k, rfl, h, hk, hQ⟩ := h
  obtain ⟨w1, w2, w3, w4, _⟩ := h.wz
  have two : used z k = z.deck.suits ++ z.deck.extras → tRet (tOp rCat (tOp (rIxL K) (tFld K (tVar 0) "names") (tC (V.int 0))) (tOp (rIxL K) (tFld K (tVar 0) "names") (tC (V.int 2)))) { nx := fun σ' H' => tRet (tOp (rIxL K) (tFld K (tVar 0) "names") (tVar 1)) { nx := fun x H' => Q V.non H', rt := Q } σ' H', rt := Q } [some (.ref t), some (nv k)] H := fun e => by
    rw [e] at hQ
    obtain ⟨dx, as, a, h1, h2, h3, h4⟩ := h.kind (k := 0) rfl
    obtain ⟨dx', as', b, h1', h2', h3', h4'⟩ := h.kind (k := 2) rfl
    obtain ⟨us, g1, g2⟩ := h4
    obtain ⟨us', g1', g2'⟩ := h4'
    refine ⟨_, rfl, t, _, _, _, _, rfl, h1, cl_Table c, na_Table_names c, rfl, q, _, (0 : Nat), _, rfl, rfl, SqL.of h2, atI_nat h3, _, rfl, t, _, _, _, _, rfl, h1, cl_Table c, na_Table_names c, rfl, q, _, (2 : Nat), _, rfl, rfl, SqL.of h2', atI_nat h3', ?_⟩
    refine ⟨a, b, _, _, rfl, rfl, g1, g1', by rw [sizeLine_eq, List.length_map, List.length_map, g2.length, g2'.length]; show z.deck.suits.length + z.deck.extras.length ≤ _; omega, fun p hp => hQ p _ (Same.new hp) ⟨us ++ us', by rw [upd_same, List.map_append], ?_⟩⟩
    exact pr_append (Paired.mono (fun b w => Same.new hp _ _) g2) (Paired.mono (fun b w => Same.new hp _ _) g2')
  have one : ∀ ws, (tn z)[k]? = some ws → used z k = ws → tRet (tOp (rIxL K) (tFld K (tVar 0) "names") (tVar 1)) { nx := fun x H' => Q V.non H', rt := Q } [some (.ref t), some (nv k)] H := fun ws hw e => by
    rw [e] at hQ
    obtain ⟨dx, as, a, h1, h2, h3, h4⟩ := h.kind hw
    exact ⟨_, rfl, t, _, _, _, _, rfl, h1, cl_Table c, na_Table_names c, rfl, _, rfl, q, _, (k : Int), _, rfl, rfl, SqL.of h2, atI_nat h3, hQ a H (Same.refl _) h4⟩
  refine ⟨_, rfl, rfl, _, rfl, ite2 (fun e => ?_) (fun e => ?_)⟩
  · obtain rfl := nv_inj (b := 0) (of_decide_eq_true e)
    exact two rfl
  · refine ⟨_, rfl, rfl, _, rfl, ite2 (fun e2 => ?_) (fun e2 => ?_)⟩
    · obtain rfl := nv_inj (b := 2) (of_decide_eq_true e2)
      exact two rfl
    · match k, hk with
      | 0, _ => exact absurd (decide_eq_true rfl) e
      | 1, _ => exact one _ rfl rfl
      | 2, _ => exact absurd (decide_eq_true rfl) e2
      | 3, _ => exact one _ rfl rfl
end

end VD
namespace VD
open PySem PySem.Spec PyProof.Rows L2
section
variable {P : Program} {w : World} {K : PySem.W.Frag} {mg : Str → Option Value} {base : Heap}
/-- a list of tokens -/
def LT (H : Hp) (a : Addr) (tks : List (Nat × List Nat)) : Prop := ∃ xs, H a = some (.lst xs) ∧ Paired (RT0 H) xs tks
theorem LT.same {H H' : Hp} (e : Same H H') {a : Addr} {tks : List (Nat × List Nat)} (h : LT H a tks) : LT H' a tks := by
  obtain ⟨xs, h1, h2⟩ := h
  exact ⟨xs, e _ _ h1, Paired.mono (fun v t => rt0_mono _ _ v t e) h2⟩
abbrev N_second_of : List Str := ["tokens", "end"]
theorem sc_second_of : FnScope N_second_of ["tokens", "end"] (defScope s_second_of) := ⟨rfl, rfl, rfl, by decide +kernel, rfl, by decide +kernel, by decide +kernel⟩
theorem ok_second_of (c : Ctx K mg) : OkF P w K mg base (L2N.CX P w) 3 "second_of" ["tokens", "end"] ((fun vs H Q E => ∃ (a : Addr) (e : Nat) (tks : List (Nat × List Nat)), vs = [.ref a, nv e] ∧ LT H a tks ∧ (tks[1]? = none → Ff E H 1 e) ∧ ∀ tk v, tks[1]? = some tk → RT0 H v tk → Q v H)) := by
  obtain ⟨fd, FT, bT⟩ := fn_TableFault (P := P) (w := w) (base := base) c
  refine okFN (f_second_of c) (g_second_of c) sc_second_of (fun _ _ _ _ _ _ us hl => match us, hl with | [_, _], _ => rfl) (fun vs H Q E h => by obtain ⟨a, e, tks, rfl, ⟨xs, ha, hp⟩, k1, k2⟩ := h; rfl) fun cdv A outer s H vs Q E hr h => ⟨_, (pss_cons (ps_if (pt_cmpR op_lt (pe_callB (lenK (K := K) rfl) (by rfl) (b_len c) boot_len (pa_cons (pv 0) pa_nil)) pe_int (nomark _)) (pss_one (L2N.ps_raise rfl (L2N.takes_of rfl rfl rfl rfl) (pmk_oexN (er_TableFault c).ox (er_TableFault c).ini (er_TableFault c).fnc FT (hr.mono (by decide)) bT passL rfl (g_TableFault c) (pa_cons (pgi (i_NOT_ALLOWED c)) (pa_cons (pv 1) pa_nil))))) pss_nil)
      (pss_one (ps_ret (pe_ix (ix_listK (K := K) rfl) (pv 0) pe_int (fun _ _ => rfl))))), ?_⟩
  obtain ⟨a, e, tks, rfl, ⟨xs, ha, hp⟩, k1, k2⟩ := h
  refine ⟨_, rfl, a, _, rfl, .inl (SqL.of ha), _, _, rfl, rfl, _, rfl, ite2 (fun q => ?_) (fun q => ?_)⟩
  · have hl := hp.length
    have := of_decide_eq_true q
    exact ⟨_, rfl, mk_err2 (k1 (List.getElem?_eq_none (by omega)))⟩
  · have hl := hp.length
    have hge : 1 < tks.length := by
      have : ¬ ((xs.length : Int) < 2) := fun z => q (decide_eq_true z)
      omega
    have ht : tks[1]? = some tks[1] := List.getElem?_eq_getElem hge
    obtain ⟨v, hv, hr⟩ := pr_get' hp ht
    exact ⟨_, rfl, a, _, (1 : Nat), v, rfl, rfl, SqL.of ha, atI_nat hv, k2 _ v ht hr⟩
abbrev N_need_no_third : List Str := ["tokens"]
theorem sc_need_no_third : FnScope N_need_no_third ["tokens"] (defScope s_need_no_third) := ⟨rfl, rfl, rfl, by decide +kernel, rfl, by decide +kernel, by decide +kernel⟩
theorem ok_need_no_third (c : Ctx K mg) : OkF P w K mg base (L2N.CX P w) 3 "need_no_third" ["tokens"] ((fun vs H Q E => ∃ (a : Addr) (tks : List (Nat × List Nat)), vs = [.ref a] ∧ LT H a tks ∧ (tks[2]? = none → Q .non H) ∧ ∀ tk, tks[2]? = some tk → Ff E H 1 tk.1)) := by
  obtain ⟨fd, FT, bT⟩ := fn_TableFault (P := P) (w := w) (base := base) c
  refine okFN (f_need_no_third c) (g_need_no_third c) sc_need_no_third (fun _ _ _ _ _ _ us hl => match us, hl with | [_], _ => rfl) (fun vs H Q E h => by obtain ⟨a, tks, rfl, ⟨xs, ha, hp⟩, k1, k2⟩ := h; rfl) fun cdv A outer s H vs Q E hr h => ⟨_, (pss_one (ps_if (pt_cmpR op_gt (pe_callB (lenK (K := K) rfl) (by rfl) (b_len c) boot_len (pa_cons (pv 0) pa_nil)) pe_int (nomark _)) (pss_one (L2N.ps_raise rfl (L2N.takes_of rfl rfl rfl rfl) (pmk_oexN (er_TableFault c).ox (er_TableFault c).ini (er_TableFault c).fnc FT (hr.mono (by decide)) bT passL rfl (g_TableFault c) (pa_cons (pgi (i_NOT_ALLOWED c)) (pa_cons (pe_ix (ix_tupK (K := K) rfl) (pe_ix (ix_listK (K := K) rfl) (pv 0) pe_int (fun _ _ => rfl)) pe_int (fun _ _ => rfl)) pa_nil))))) pss_nil)), ?_⟩
  obtain ⟨a, tks, rfl, ⟨xs, ha, hp⟩, k1, k2⟩ := h
  refine ⟨_, rfl, a, _, rfl, .inl (SqL.of ha), _, _, rfl, rfl, _, rfl, ite2 (fun q => ?_) (fun q => ?_)⟩
  · have hl := hp.length
    have := of_decide_eq_true q
    have hge : 2 < tks.length := by omega
    have ht : tks[2]? = some tks[2] := List.getElem?_eq_getElem hge
    obtain ⟨v, hv, t, b, rfl, hT, hb⟩ := pr_get' hp ht
    exact ⟨_, rfl, a, _, (2 : Nat), _, rfl, rfl, SqL.of ha, atI_nat hv, t, _, (0 : Nat), _, rfl, rfl, SqT.of hT, atI_nat rfl, mk_err2 (k2 _ ht)⟩
  · have hl := hp.length
    have hge : ¬ ((xs.length : Int) > 2) := fun z => q (decide_eq_true z)
    exact k1 (List.getElem?_eq_none (by omega))
abbrev N_Table_declare : List Str := ["self", "kind", "name"]
theorem sc_Table_declare : FnScope N_Table_declare ["self", "kind", "name"] (defScope s_Table_declare) := ⟨rfl, rfl, rfl, by decide +kernel, rfl, by decide +kernel, by decide +kernel⟩
theorem ok_Table_declare (c : Ctx K mg) : OkM P w K mg base (L2.CX P w) 1 c_Table "declare" ["self", "kind", "name"] ((fun vs H Q _ => ∃ t q z z' k b wd ws, vs = [.ref t, nv k, .ref b] ∧ TbW H t q z ∧ LN H b wd ∧ (tn z)[k]? = some ws ∧ ws.length < 1000 ∧ tn z' = (tn z).set k (ws ++ [wd]) ∧ z'.deck.copies = z.deck.copies ∧ Wz z' ∧ b ∉ [t, q] ∧ ∀ H', But [t, q] H H' → TbW H' t q z' → Q .non H')) := by
  refine okM (f_Table_declare c) (me_Table_declare c) (cl_Table c) sc_Table_declare (fun _ _ _ _ _ _ us hl => match us, hl with | [_, _, _], _ => rfl) (fun vs H Q E h => by obtain ⟨t, q, z, z', k, b, wd, ws, rfl, h, hb, hk, hz, e1, e2, hw, hbn, hQ⟩ := h; rfl) fun cdv A outer s H vs Q E hr h => ⟨_, (pss_one (ps_asg (pe_op op_cat (pe_ix (ix_listK (K := K) rfl) (pe_fldK (K := K) rfl (pv 0)) (pv 1) (fun _ _ => rfl)) (pe_lst (pa_cons (pv 2) pa_nil))) (pg_sub (pe_fldK (K := K) rfl (pv 0)) (pv 1) set_list))), ?_⟩
  obtain ⟨t, q, z, z', k, b, wd, ws, rfl, h, hb, hk, hz, e1, e2, hw, hbn, hQ⟩ := h
  obtain ⟨w0, tq, dx, h1, as, h2, h3⟩ := id h
  obtain ⟨a, ha, l⟩ := pr_get' h3 hk
  obtain ⟨us, l1, l2⟩ := l
  obtain ⟨l1', na⟩ := drp_of l1
  refine ⟨_, rfl, t, _, _, _, _, rfl, h1, cl_Table c, na_Table_names c, rfl, _, rfl, q, _, (k : Int), _, rfl, rfl, SqL.of h2, atI_nat (by rw [List.getElem?_map, ha]; rfl), ?_⟩
  refine ⟨_, rfl, by show 1 ≤ sizeLine; decide, fun n1 hn1 => ?_⟩
  have s1 := Same.new (o := .lst [.ref b]) hn1
  refine ⟨a, n1, _, _, rfl, rfl, s1 _ _ l1', upd_same, by rw [sizeLine_eq, List.length_map, l2.length]; show _ + 1 ≤ _; omega, fun n2 hn2 => ?_⟩
  have s2 := s1.trans (Same.new (o := .lst (us.map V.ref ++ [.ref b])) hn2)
  refine ⟨_, rfl, t, _, _, _, _, rfl, s2 _ _ h1, cl_Table c, na_Table_names c, rfl, _, rfl, q, _, _, k, rfl, rfl, s2 _ _ h2, ?_, ?_⟩
  · have hkl : k < as.length := (List.getElem?_eq_some_iff.mp ha).1
    rw [List.length_map]
    unfold ixN
    rw [if_pos (by omega), if_pos (by omega), Int.toNat_natCast]
  · refine hQ _ ((s2.but _).put (by simp)) ⟨hw, tq, dx, ?_, as.set k n2, by rw [upd_same, List.map_set], ?_⟩
    · rw [e2]
      exact (upd_ne tq).trans (s2 _ _ h1)
    · rw [e1]
      have n2t : n2 ≠ t := (ne_of_none (s1 _ _ h1) hn2).symm
      have n2q : n2 ≠ q := (ne_of_none (s1 _ _ h2) hn2).symm
      have dd : Same (drp H [t, q]) (drp (upd (upd (upd H n1 (.lst [.ref b])) n2 (.lst (us.map V.ref ++ [.ref b]))) q (.lst ((as.map V.ref).set k (.ref n2)))) [t, q]) := But.drp ((s2.but _).put (by simp))
      refine pr_set k (Paired.mono (fun a ws h => h.same dd) h3) ⟨us ++ [b], drp_at ((upd_ne n2q).trans (by rw [upd_same, List.map_append]; rfl)) (by simp [n2t, n2q]), pr_append (Paired.mono (fun b w => dd _ _) l2) (.cons (dd _ _ (drp_at hb hbn)) .nil)⟩
def dec (z : Vbndaa.Table) (k : Nat) (n : List Nat) : Vbndaa.Table := match k with
  | 0 => { z with deck := { z.deck with suits := z.deck.suits ++ [n] } }
  | 1 => { z with deck := { z.deck with ranks := z.deck.ranks ++ [n] } }
  | 2 => { z with deck := { z.deck with extras := z.deck.extras ++ [n] } }
  | _ => { z with players := z.players ++ [n] }
def rdName (z : Vbndaa.Table) (k : Nat) (tks : List (Nat × List Nat)) (e : Nat) : Except (Nat × Nat) Vbndaa.Table :=
  if ((tn z)[k]?.getD []).length = most.getD k 0 then .error (7, (tks.head?.getD (0, [])).1) else match tks[1]? with
    | none => .error (1, e)
    | some tk => if isName tk.2 = false then .error (1, tk.1) else if (used z k).contains tk.2 = true then .error (4, tk.1) else match tks[2]? with
      | some t3 => .error (1, t3.1)
      | none => .ok (dec z k tk.2)
/-- what a line's reading is to hand back -/
def RdQ (Q : VK) (E : XK) (H : Hp) (t q : Addr) (r : Except (Nat × Nat) Vbndaa.Table) : Prop := match r with
  | .error p => RetF E H p.1 p.2
  | .ok z => ∀ H', But [t, q] H H' → TbW H' t q z → Q .non H'
theorem dec_wz {z : Vbndaa.Table} {k : Nat} {n : List Nat} {ws : List (List Nat)} (h : Wz z) (hk : (tn z)[k]? = some ws) (hl : ws.length ≠ most.getD k 0) (hn : isName n = true) (hu : (used z k).contains n = false) :
    Wz (dec z k n) ∧ tn (dec z k n) = (tn z).set k (ws ++ [n]) ∧ (dec z k n).deck.copies = z.deck.copies := by
  have hu' : n ∉ used z k := fun h => by
    rw [List.contains_iff_mem.mpr h] at hu
    cases hu
  obtain ⟨w1, w2, w3, w4, w5, w6, w7, w8, w9, w10, w11, w12⟩ := h
  have nds : ∀ {l : List (List Nat)}, l.Nodup → n ∉ l → (l ++ [n]).Nodup := fun h m => List.nodup_append.mpr ⟨h, by simp, fun a ha b hb => by
    obtain rfl : b = n := by simpa using hb
    exact fun e => m (e ▸ ha)⟩
  have mm : ∀ {l : List (List Nat)}, (∀ w ∈ l, isName w = true) → ∀ w ∈ l ++ [n], isName w = true := fun h w hw => by
    rcases List.mem_append.mp hw with q | q
    · exact h w q
    · obtain rfl : w = n := by simpa using q
      exact hn
  have perm : ∀ {a b : List (List Nat)}, (a ++ b).Nodup → n ∉ a ++ b → ((a ++ [n]) ++ b).Nodup := fun {a b} h m => by
    have p : ((a ++ [n]) ++ b).Perm ((a ++ b) ++ [n]) := by
      rw [List.append_assoc, List.append_assoc]
      exact List.perm_append_comm.append_left a
    exact p.nodup_iff.mpr (nds h m)
  match k, hk with
  | 0, hk =>
    cases hk
    have hu2 : n ∉ z.deck.suits ++ z.deck.extras := hu'
    refine ⟨⟨?_, w2, w3, w4, w5, w6, fun w hw => ?_, w8, w9, perm w10 hu2, w11, w12⟩, rfl, rfl⟩
    · have : z.deck.suits.length ≠ 6 := hl
      show (z.deck.suits ++ [n]).length ≤ 6
      rw [List.length_append]
      show _ + 1 ≤ _
      omega
    · have hw : w ∈ (z.deck.suits ++ [n]) ++ z.deck.extras := hw
      have := mm w7 w
      simp only [List.mem_append] at hw this
      rcases hw with (q | q) | q
      · exact this (.inl (.inl q))
      · exact this (.inr q)
      · exact this (.inl (.inr q))
  | 1, hk =>
    cases hk
    refine ⟨⟨w1, ?_, w3, w4, w5, w6, w7, mm w8, w9, w10, nds w11 hu', w12⟩, rfl, rfl⟩
    have : z.deck.ranks.length ≠ 15 := hl
    show (z.deck.ranks ++ [n]).length ≤ 15
    rw [List.length_append]
    show _ + 1 ≤ _
    omega
  | 2, hk =>
    cases hk
    have hu2 : n ∉ z.deck.suits ++ z.deck.extras := hu'
    refine ⟨⟨w1, w2, ?_, w4, w5, w6, fun w hw => ?_, w8, w9, ?_, w11, w12⟩, rfl, rfl⟩
    · have : z.deck.extras.length ≠ 4 := hl
      show (z.deck.extras ++ [n]).length ≤ 4
      rw [List.length_append]
      show _ + 1 ≤ _
      omega
    · have hw : w ∈ z.deck.suits ++ (z.deck.extras ++ [n]) := hw
      rw [← List.append_assoc] at hw
      exact mm w7 w hw
    · show (z.deck.suits ++ (z.deck.extras ++ [n])).Nodup
      rw [← List.append_assoc]
      exact nds w10 hu2
  | 3, hk =>
    cases hk
    refine ⟨⟨w1, w2, w3, ?_, w5, w6, w7, w8, mm w9, w10, w11, nds w12 hu'⟩, rfl, rfl⟩
    have : z.players.length ≠ 6 := hl
    show (z.players ++ [n]).length ≤ 6
    rw [List.length_append]
    show _ + 1 ≤ _
    omega
  | k + 4, hk => simp [tn] at hk
theorem isName_len {w : List Nat} (h : isName w = true) : w.length ≤ 12 := by
  rw [name_eq] at h
  simp only [Bool.and_eq_true, decide_eq_true_eq] at h
  exact h.1.2
end

end VD
namespace VD
open PySem PySem.Spec PyProof.Rows L2
section
variable {P : Program} {w : World} {K : PySem.W.Frag} {mg : Str → Option Value} {base : Heap}
theorem most_at {k : Nat} (h : k < 4) : ([V.int 6, .int 15, .int 4, .int 6] : List V)[k]? = some (nv (most.getD k 0)) := by
  match k, h with
  | 0, _ => rfl
  | 1, _ => rfl
  | 2, _ => rfl
  | 3, _ => rfl
theorem tn_at {z : Vbndaa.Table} {k : Nat} (h : k < 4) : ∃ ws, (tn z)[k]? = some ws := ⟨_, List.getElem?_eq_getElem (show k < (tn z).length from h)⟩
theorem used_len {z : Vbndaa.Table} (h : Wz z) (k : Nat) : (used z k).length ≤ 100 := by
  obtain ⟨w1, w2, w3, w4, _⟩ := h
  unfold used
  split <;> (try rw [List.length_append]) <;> omega
abbrev N_read_name : List Str := ["table", "kind", "tokens", "end", "place", "word"]
theorem sc_read_name : FnScope N_read_name ["table", "kind", "tokens", "end"] (defScope s_read_name) := ⟨rfl, rfl, rfl, by decide +kernel, rfl, by decide +kernel, by decide +kernel⟩
theorem ok_read_name (c : Ctx K mg) : OkF P w K mg base (L2N.CX P w) 4 "read_name" ["table", "kind", "tokens", "end"] ((fun vs H Q E => ∃ t q z k a e tks, vs = [.ref t, nv k, .ref a, nv e] ∧ TbW H t q z ∧ k < 4 ∧ LT H a tks ∧ tks ≠ [] ∧ (∀ tk ∈ tks, tk.2.length ≤ 100000) ∧ RdQ Q E H t q (rdName z k tks e))) := by
  obtain ⟨fd, FT, bT⟩ := fn_TableFault (P := P) (w := w) (base := base) c
  refine okFN (f_read_name c) (g_read_name c) sc_read_name (fun _ _ _ _ _ _ us hl => match us, hl with | [_, _, _, _], _ => rfl) (fun vs H Q E h => by obtain ⟨t, q, z, k, a, e, tks, rfl, h, hk, hl, hne, hz, hQ⟩ := h; rfl) fun cdv A outer s H vs Q E hr h => ⟨_, (pss_cons (ps_if (pt_cmpR op_eq (pmeth (E := E0) (ok_Table_many c) (pv 0) (hr.mono (by decide)) passL (pa_cons (pv 1) pa_nil)) (pe_ix (ix_tupK (K := K) rfl) (pgr (g_MOST_NAMES c)) (pv 1) (fun _ _ => rfl)) (nomark _)) (pss_one (L2N.ps_raise rfl (L2N.takes_of rfl rfl rfl rfl) (pmk_oexN (er_TableFault c).ox (er_TableFault c).ini (er_TableFault c).fnc FT (hr.mono (by decide)) bT passL rfl (g_TableFault c) (pa_cons (pgi (i_TOO_MANY_NAMES c)) (pa_cons (pe_ix (ix_tupK (K := K) rfl) (pe_ix (ix_listK (K := K) rfl) (pv 2) pe_int (fun _ _ => rfl)) pe_int (fun _ _ => rfl)) pa_nil))))) pss_nil)
      (pss_cons (ps_asg (pcall (ok_second_of c) (hr.mono (by decide)) (L2N.passes_call (L2N.takes_of rfl rfl rfl rfl) (fun _ _ _ _ h => h)) (pa_cons (pv 2) (pa_cons (pv 3) pa_nil))) (pg_tup rfl (pgs_cons (pg_name (i := 4) sc_read_name.nd rfl (Or.inl rfl)) (pgs_cons (pg_name (i := 5) sc_read_name.nd rfl (Or.inl rfl)) pgs_nil))))
      (pss_cons (ps_if (pt_not (pt_val (pcall (E := E0) (ok_is_name c) (hr.mono (by decide)) passL (pa_cons (pv 5) pa_nil)))) (pss_one (L2N.ps_raise rfl (L2N.takes_of rfl rfl rfl rfl) (pmk_oexN (er_TableFault c).ox (er_TableFault c).ini (er_TableFault c).fnc FT (hr.mono (by decide)) bT passL rfl (g_TableFault c) (pa_cons (pgi (i_NOT_ALLOWED c)) (pa_cons (pv 4) pa_nil))))) pss_nil)
      (pss_cons (ps_if (pt_cmpR (inDK (K := K) rfl (hu65 hr)) (pv 5) (pcall (E := E0) (ok_used_names c) (hr.mono (by decide)) passL (pa_cons (pv 0) (pa_cons (pv 1) pa_nil))) (by rfl)) (pss_one (L2N.ps_raise rfl (L2N.takes_of rfl rfl rfl rfl) (pmk_oexN (er_TableFault c).ox (er_TableFault c).ini (er_TableFault c).fnc FT (hr.mono (by decide)) bT passL rfl (g_TableFault c) (pa_cons (pgi (i_NAME_USED c)) (pa_cons (pv 4) pa_nil))))) pss_nil)
      (pss_cons (ps_expr (pcall (ok_need_no_third c) (hr.mono (by decide)) (L2N.passes_call (L2N.takes_of rfl rfl rfl rfl) (fun _ _ _ _ h => h)) (pa_cons (pv 2) pa_nil)))
      (pss_one (ps_expr (pmeth (E := E0) (ok_Table_declare c) (pv 0) (hr.mono (by decide)) passL (pa_cons (pv 1) (pa_cons (pv 5) pa_nil)))))))))), ?_⟩
  obtain ⟨t, q, z, k, a, e, tks, rfl, h, hk, hl, hne, hz, hQ⟩ := h
  obtain ⟨dx, as, _, h1, _⟩ := h.kind (k := 0) rfl
  obtain ⟨ws, hws⟩ := tn_at (z := z) hk
  obtain ⟨xs, ha, hp⟩ := id hl
  refine ⟨_, rfl, t, _, _, rfl, h1, rfl, _, rfl, t, q, z, k, ws, rfl, h, hws, ?_⟩
  refine ⟨_, rfl, t_MOST_NAMES, _, (k : Int), _, rfl, rfl, tp_218 c H, atI_nat (most_at hk), ?_⟩
  refine ⟨rfl, _, rfl, ?_⟩
  unfold rdName at hQ
  rw [hws] at hQ
  simp only [Option.getD_some] at hQ
  obtain ⟨tk0, tr, rfl⟩ : ∃ a b, tks = a :: b := by
    cases tks with
    | nil => exact absurd rfl hne
    | cons a b => exact ⟨a, b, rfl⟩
  by_cases c1 : ws.length = most.getD k 0
  · rw [if_pos c1] at hQ
    refine ite2 (fun _ => ?_) (fun q => absurd (decide_eq_true (by rw [c1])) q)
    obtain ⟨v, hv, T, b, rfl, hT, hb⟩ := pr_get' hp (i := 0) rfl
    exact ⟨_, rfl, a, _, (0 : Nat), _, rfl, rfl, SqL.of ha, atI_nat hv, T, _, (0 : Nat), _, rfl, rfl, SqT.of hT, atI_nat rfl, mk_err2 (hQ H (Same.refl _))⟩
  · rw [if_neg c1] at hQ
    refine ite2 (fun q => absurd (nv_inj (of_decide_eq_true q)) c1) (fun _ => ?_)
    refine ⟨_, rfl, _, rfl, a, e, _, rfl, hl, fun hn => ?_, fun tk v ht hr => ?_⟩
    · rw [hn] at hQ
      exact hQ H (Same.refl _)
    · rw [ht] at hQ
      simp only at hQ
      obtain ⟨T, b, rfl, hT, hb⟩ := hr
      refine ⟨T, _, rfl, SqT.of hT, rfl, _, _, rfl, _, _, rfl, rfl, ?_⟩
      have hbz := hz tk (List.mem_of_getElem? ht)
      refine ⟨_, rfl, b, tk.2, rfl, hb, hbz, fun H1 s1 => ⟨_, rfl, ?_⟩⟩
      cases hn : isName tk.2 with
      | false =>
        rw [hn, if_pos rfl] at hQ
        exact ⟨_, rfl, mk_err2 (hQ H1 s1)⟩
      | true =>
        rw [hn, if_neg (by decide)] at hQ
        have h' := h.same s1
        refine ⟨_, rfl, _, rfl, _, rfl, t, q, z, k, rfl, h', hk, fun p H2 s2 hp2 => ?_⟩
        have s12 := s1.trans s2
        refine ⟨dw tk.2, _, dp_w (s12 _ _ hb), dp_ws hp2, sh_dw _, sh_dws _, _, rfl, ?_⟩
        rw [any_dw]
        cases hu : (used z k).contains tk.2 with
        | true =>
          rw [hu, if_pos rfl] at hQ
          exact ⟨_, rfl, mk_err2 (hQ H2 s12)⟩
        | false =>
          rw [hu, if_neg (by decide)] at hQ
          refine ⟨_, rfl, a, _, rfl, hl.same s12, fun hn2 => ?_, fun t3 ht3 => ?_⟩
          · rw [hn2] at hQ
            obtain ⟨d1, d2, d3⟩ := dec_wz h.wz hws c1 hn hu
            have h2 := h.same s12
            obtain ⟨dx2, as2, _, h3, h4, h5, _⟩ := h2.kind (k := 0) rfl
            have bt : b ≠ t := fun e => by
              have := s12 _ _ hb
              rw [e, h3] at this
              cases this
            have bq : b ≠ q := fun e => by
              have := s12 _ _ hb
              rw [e, h4] at this
              have := HO.lst.inj (Option.some.inj this)
              rw [this, List.getElem?_map] at h5
              cases e6 : tk.2[0]? with
              | none => rw [e6] at h5; cases h5
              | some n => rw [e6] at h5; cases h5
            obtain ⟨m, hm, hle, h15⟩ := wz_kind h.wz hws
            refine ⟨_, rfl, t, _, _, rfl, h3, rfl, _, rfl, _, rfl, t, q, z, _, k, b, tk.2, ws, rfl, h2, s12 _ _ hb, hws, by omega, d2, d3, d1, by simp [bt, bq], fun H3 b3 h6 => ?_⟩
            exact hQ H3 ((s12.but _).trans b3) h6
          · rw [ht3] at hQ
            exact hQ H2 s12
def rdCopies (z : Vbndaa.Table) (tks : List (Nat × List Nat)) (e : Nat) : Except (Nat × Nat) Vbndaa.Table := match tks[1]? with
  | none => .error (1, e)
  | some tk => if isNum tk.2 = false then .error (1, tk.1) else if 1 ≤ Vbndaa.valueOf tk.2 ∧ Vbndaa.valueOf tk.2 ≤ 4 then (match tks[2]? with
      | some t3 => .error (1, t3.1)
      | none => .ok { z with deck := { z.deck with copies := Vbndaa.valueOf tk.2 } }) else .error (3, tk.1)
theorem isNum_digits {w : List Nat} (h : isNum w = true) : w.all Vbndaa.isDigit = true := by
  rw [num_eq] at h
  simp only [Bool.and_eq_true] at h
  exact h.1.2
abbrev N_read_copies : List Str := ["table", "tokens", "end", "place", "word"]
theorem sc_read_copies : FnScope N_read_copies ["table", "tokens", "end"] (defScope s_read_copies) := ⟨rfl, rfl, rfl, by decide +kernel, rfl, by decide +kernel, by decide +kernel⟩
theorem ok_read_copies (c : Ctx K mg) : OkF P w K mg base (L2N.CX P w) 4 "read_copies" ["table", "tokens", "end"] ((fun vs H Q E => ∃ t q z a e tks, vs = [.ref t, .ref a, nv e] ∧ TbW H t q z ∧ LT H a tks ∧ (∀ tk ∈ tks, tk.2.length ≤ 100000) ∧ RdQ Q E H t q (rdCopies z tks e))) := by
  obtain ⟨fd, FT, bT⟩ := fn_TableFault (P := P) (w := w) (base := base) c
  refine okFN (f_read_copies c) (g_read_copies c) sc_read_copies (fun _ _ _ _ _ _ us hl => match us, hl with | [_, _, _], _ => rfl) (fun vs H Q E h => by obtain ⟨t, q, z, a, e, tks, rfl, h, hl, hz, hQ⟩ := h; rfl) fun cdv A outer s H vs Q E hr h => ⟨_, (pss_cons (ps_asg (pcall (ok_second_of c) (hr.mono (by decide)) (L2N.passes_call (L2N.takes_of rfl rfl rfl rfl) (fun _ _ _ _ h => h)) (pa_cons (pv 1) (pa_cons (pv 2) pa_nil))) (pg_tup rfl (pgs_cons (pg_name (i := 3) sc_read_copies.nd rfl (Or.inl rfl)) (pgs_cons (pg_name (i := 4) sc_read_copies.nd rfl (Or.inl rfl)) pgs_nil))))
      (pss_cons (ps_if (pt_not (pt_val (pcall (E := E0) (ok_is_number c) (hr.mono (by decide)) passL (pa_cons (pv 4) pa_nil)))) (pss_one (L2N.ps_raise rfl (L2N.takes_of rfl rfl rfl rfl) (pmk_oexN (er_TableFault c).ox (er_TableFault c).ini (er_TableFault c).fnc FT (hr.mono (by decide)) bT passL rfl (g_TableFault c) (pa_cons (pgi (i_NOT_ALLOWED c)) (pa_cons (pv 3) pa_nil))))) pss_nil)
      (pss_cons (ps_if (pt_not (pt_chain op_le op_le pe_int (pcall (E := E0) (ok_value_of c) (hr.mono (by decide)) passL (pa_cons (pv 4) pa_nil)) (pgi (i_MOST_COPIES c)))) (pss_one (L2N.ps_raise rfl (L2N.takes_of rfl rfl rfl rfl) (pmk_oexN (er_TableFault c).ox (er_TableFault c).ini (er_TableFault c).fnc FT (hr.mono (by decide)) bT passL rfl (g_TableFault c) (pa_cons (pgi (i_OUT_OF_RANGE c)) (pa_cons (pv 3) pa_nil))))) pss_nil)
      (pss_cons (ps_expr (pcall (ok_need_no_third c) (hr.mono (by decide)) (L2N.passes_call (L2N.takes_of rfl rfl rfl rfl) (fun _ _ _ _ h => h)) (pa_cons (pv 1) pa_nil)))
      (pss_one (ps_fld (pv 0) (pcall (E := E0) (ok_value_of c) (hr.mono (by decide)) passL (pa_cons (pv 4) pa_nil)) rfl)))))), ?_⟩
  obtain ⟨t, q, z, a, e, tks, rfl, h, hl, hz, hQ⟩ := h
  obtain ⟨xs, ha, hp⟩ := id hl
  unfold rdCopies at hQ
  refine ⟨_, rfl, _, rfl, a, e, tks, rfl, hl, fun hn => ?_, fun tk v ht hr => ?_⟩
  · rw [hn] at hQ
    exact hQ H (Same.refl _)
  · rw [ht] at hQ
    simp only at hQ
    obtain ⟨T, b, rfl, hT, hb⟩ := hr
    refine ⟨T, _, rfl, SqT.of hT, rfl, _, _, rfl, _, _, rfl, rfl, ?_⟩
    refine ⟨_, rfl, b, tk.2, rfl, hb, hz tk (List.mem_of_getElem? ht), fun H1 s1 => ⟨_, rfl, ?_⟩⟩
    cases hn : isNum tk.2 with
    | false =>
      rw [hn, if_pos rfl] at hQ
      exact ⟨_, rfl, mk_err2 (hQ H1 s1)⟩
    | true =>
      rw [hn, if_neg (by decide)] at hQ
      have dg := isNum_digits hn
      refine ⟨_, rfl, b, tk.2, rfl, s1 _ _ hb, dg, _, _, rfl, rfl, _, rfl, ?_⟩
      by_cases cr : 1 ≤ Vbndaa.valueOf tk.2 ∧ Vbndaa.valueOf tk.2 ≤ 4
      · rw [if_pos cr] at hQ
        rw [decide_eq_true (show (1 : Int) ≤ (Vbndaa.valueOf tk.2 : Int) by omega)]
        refine ⟨_, _, rfl, rfl, _, rfl, ?_⟩
        rw [decide_eq_true (show (Vbndaa.valueOf tk.2 : Int) ≤ 4 by omega)]
        refine ⟨_, rfl, a, _, rfl, hl.same s1, fun hn2 => ?_, fun t3 ht3 => ?_⟩
        · rw [hn2] at hQ
          have h2 := h.same s1
          obtain ⟨w0, tq, dx, h3, as, h4, h5⟩ := id h2
          refine ⟨_, rfl, b, tk.2, rfl, s1 _ _ hb, dg, _, rfl, t, _, _, _, rfl, h3, cl_Table c, na_Table_copies c, by show 2 < 1000; decide, ?_⟩
          have bt : But [t, q] H1 (upd H1 t (tableO dx q (Vbndaa.valueOf tk.2))) := ((Same.refl H1).but _).put (by simp)
          refine hQ _ ((s1.but _).trans bt) ⟨?_, tq, dx, upd_same, as, (upd_ne tq.symm).trans h4, Paired.mono (fun a ws h => h.same bt.drp) h5⟩
          obtain ⟨w1, w2, w3, w4, w5, w6, w7⟩ := w0
          exact ⟨w1, w2, w3, w4, cr.1, cr.2, w7⟩
        · rw [ht3] at hQ
          exact hQ H1 s1
      · rw [if_neg cr] at hQ
        by_cases c1 : 1 ≤ Vbndaa.valueOf tk.2
        · rw [decide_eq_true (show (1 : Int) ≤ (Vbndaa.valueOf tk.2 : Int) by omega)]
          refine ⟨_, _, rfl, rfl, _, rfl, ?_⟩
          rw [decide_eq_false (show ¬ (Vbndaa.valueOf tk.2 : Int) ≤ 4 by omega)]
          exact ⟨_, rfl, mk_err2 (hQ H1 s1)⟩
        · rw [decide_eq_false (show ¬ (1 : Int) ≤ (Vbndaa.valueOf tk.2 : Int) by omega)]
          exact ⟨_, rfl, _, rfl, mk_err2 (hQ H1 s1)⟩
def rdLine (z : Vbndaa.Table) (tks : List (Nat × List Nat)) (e : Nat) : Except (Nat × Nat) Vbndaa.Table := match tks with
  | [] => .ok z
  | tk :: _ => match kindW tk.2 with
    | some k => rdName z k tks e
    | none => if tk.2 = Vbndaa.toBytes "copies" then rdCopies z tks e else .error (1, tk.1)
theorem kindW_lt {w : List Nat} {k : Nat} (h : kindW w = some k) : k < 4 := by
  unfold kindW at h
  repeat' (split at h)
  all_goals (cases h <;> decide)
abbrev N_read_line : List Str := ["table", "tokens", "end", "place", "word", "kind"]
theorem sc_read_line : FnScope N_read_line ["table", "tokens", "end"] (defScope s_read_line) := ⟨rfl, rfl, rfl, by decide +kernel, rfl, by decide +kernel, by decide +kernel⟩
theorem ok_read_line (c : Ctx K mg) : OkF P w K mg base (L2N.CX P w) 5 "read_line" ["table", "tokens", "end"] ((fun vs H Q E => ∃ t q z a e tks, vs = [.ref t, .ref a, nv e] ∧ TbW H t q z ∧ LT H a tks ∧ tks ≠ [] ∧ (∀ tk ∈ tks, tk.2.length ≤ 100000) ∧ RdQ Q E H t q (rdLine z tks e))) := by
  obtain ⟨fd, FT, bT⟩ := fn_TableFault (P := P) (w := w) (base := base) c
  refine okFN (f_read_line c) (g_read_line c) sc_read_line (fun _ _ _ _ _ _ us hl => match us, hl with | [_, _, _], _ => rfl) (fun vs H Q E h => by obtain ⟨t, q, z, a, e, tks, rfl, h, hl, hne, hz, hQ⟩ := h; rfl) fun cdv A outer s H vs Q E hr h => ⟨_, (pss_cons (ps_asg (pe_ix (ix_listK (K := K) rfl) (pv 1) pe_int (fun _ _ => rfl)) (pg_tup rfl (pgs_cons (pg_name (i := 3) sc_read_line.nd rfl (Or.inl rfl)) (pgs_cons (pg_name (i := 4) sc_read_line.nd rfl (Or.inl rfl)) pgs_nil))))
      (pss_cons (ps_set (i := 5) sc_read_line.nd rfl (Or.inl rfl) (pcall (E := E0) (ok_kind_of c) (hr.mono (by decide)) passL (pa_cons (pv 4) pa_nil)))
      (pss_one (ps_if (pt_cmpR op_notN (pv 5) pe_non (nomark _)) (pss_one (ps_expr (pcall (ok_read_name c) (hr.mono (by decide)) (L2N.passes_call (L2N.takes_of rfl rfl rfl rfl) (fun _ _ _ _ h => h)) (pa_cons (pv 0) (pa_cons (pv 5) (pa_cons (pv 1) (pa_cons (pv 2) pa_nil))))))) (pss_one (ps_if (pt_cmpR (eqDK (K := K) rfl hr.units) (pv 4) (pcall (E := E0) (ok_bytes_of c) (hr.mono (by decide)) passL (pa_cons pe_str pa_nil)) (nomark _)) (pss_one (ps_expr (pcall (ok_read_copies c) (hr.mono (by decide)) (L2N.passes_call (L2N.takes_of rfl rfl rfl rfl) (fun _ _ _ _ h => h)) (pa_cons (pv 0) (pa_cons (pv 1) (pa_cons (pv 2) pa_nil)))))) (pss_one (L2N.ps_raise rfl (L2N.takes_of rfl rfl rfl rfl) (pmk_oexN (er_TableFault c).ox (er_TableFault c).ini (er_TableFault c).fnc FT (hr.mono (by decide)) bT passL rfl (g_TableFault c) (pa_cons (pgi (i_NOT_ALLOWED c)) (pa_cons (pv 3) pa_nil))))))))))), ?_⟩
  obtain ⟨t, q, z, a, e, tks, rfl, h, hl, hne, hz, hQ⟩ := h
  obtain ⟨xs, ha, hp⟩ := id hl
  obtain ⟨tk, tr, rfl⟩ : ∃ a b, tks = a :: b := by
    cases tks with
    | nil => exact absurd rfl hne
    | cons a b => exact ⟨a, b, rfl⟩
  unfold rdLine at hQ
  simp only at hQ
  obtain ⟨v, hv, T, b, rfl, hT, hb⟩ := pr_get' hp (i := 0) rfl
  refine ⟨_, rfl, a, _, (0 : Nat), _, rfl, rfl, SqL.of ha, atI_nat hv, T, _, rfl, SqT.of hT, rfl, _, _, rfl, _, _, rfl, rfl, ?_⟩
  have hbz := hz tk (by simp)
  refine ⟨_, rfl, b, tk.2, rfl, hb, hbz, fun H1 s1 => ?_⟩
  refine ⟨_, rfl, rfl, _, rfl, ?_⟩
  have back : ∀ (H2 : Hp), Same H H2 → ∀ {r : Except (Nat × Nat) Vbndaa.Table}, RdQ Q E H t q r → RdQ Q E H2 t q r := fun H2 s2 r h => by
    cases r with
    | error p => exact fun H3 s3 => h H3 (s2.trans s3)
    | ok z => exact fun H3 b3 => h H3 ((s2.but _).trans b3)
  cases hk : kindW tk.2 with
  | some k =>
    rw [hk] at hQ
    refine iteT ?_
    exact ⟨_, rfl, _, rfl, _, rfl, _, rfl, t, q, z, k, a, e, _, rfl, h.same s1, kindW_lt hk, hl.same s1, List.cons_ne_nil _ _, hz, back H1 s1 hQ⟩
  | none =>
    rw [hk] at hQ
    simp only at hQ
    refine iteF ?_
    refine ⟨_, rfl, _, Vbndaa.toBytes "copies", rfl, ofString_cps _, by decide +kernel, fun p H2 s2 hp2 hv2 => ?_⟩
    have s12 := s1.trans s2
    refine ⟨dw tk.2, dw (Vbndaa.toBytes "copies"), dp_w (s12 _ _ hb), dp_w hv2, sh_dw _, sh_dw _, _, rfl, ite2 (fun q => ?_) (fun q => ?_)⟩
    · rw [eqv_dw, beq_iff_eq] at q
      rw [if_pos q] at hQ
      exact ⟨_, rfl, _, rfl, _, rfl, t, _, z, a, e, _, rfl, h.same s12, hl.same s12, hz, back H2 s12 hQ⟩
    · rw [eqv_dw, beq_iff_eq] at q
      rw [if_neg q] at hQ
      exact ⟨_, rfl, mk_err2 (hQ H2 s12)⟩
end

end VD
namespace VD
open PySem PySem.Spec PyProof.Rows L2
def rdLines (t : List Nat) : Vbndaa.Table → List (Nat × Nat) → Except (Nat × Nat) Vbndaa.Table
  | z, [] => .ok z
  | z, p :: r => match rdLine z (toks p.1 (cut t p.1 p.2)) p.2 with
    | .error e => .error e
    | .ok z' => rdLines t z' r
def rdTable (t : List Nat) : Except (Nat × Nat) Vbndaa.Table := match rdLines t Vbndaa.emptyTable (linesP 0 0 t) with
  | .error e => .error e
  | .ok z => if 52 < Vbndaa.deckSize z.deck then .error (8, t.length) else if Vbndaa.deckSize z.deck = 0 ∨ z.players.length < 2 then .error (9, t.length) else .ok z
def TabQ (Q : VK) (E : XK) (H : Hp) (r : Except (Nat × Nat) Vbndaa.Table) : Prop := match r with
  | .error p => RetF E H p.1 p.2
  | .ok z => ∀ t q H', Same H H' → TbW H' t q z → Q (.ref t) H'
theorem lines_in {t : List Nat} {p : Nat × Nat} (h : p ∈ linesP 0 0 t) : p.1 ≤ p.2 ∧ p.2 ≤ t.length := by
  have key : ∀ (r : List Nat) (s p : Nat), s ≤ p → ∀ x ∈ linesP s p r, x.1 ≤ x.2 ∧ x.2 ≤ p + r.length := by
    intro r
    induction r with
    | nil =>
      intro s p h x hx
      obtain rfl : x = (s, p) := by simpa [linesP] using hx
      exact ⟨h, Nat.le_refl _⟩
    | cons c r ih =>
      intro s p h x hx
      unfold linesP at hx
      by_cases e : c = 10
      · rw [if_pos e] at hx
        rcases List.mem_cons.mp hx with q | q
        · subst q
          exact ⟨h, by simp⟩
        · have := ih (p + 1) (p + 1) (Nat.le_refl _) x q
          simp only [List.length_cons]
          omega
      · rw [if_neg e] at hx
        have := ih s (p + 1) (by omega) x hx
        simp only [List.length_cons]
        omega
  have := key t 0 0 (Nat.le_refl _) p h
  omega
theorem toks_short {p : Nat} {l : List Nat} : ∀ tk ∈ toks p l, tk.2.length ≤ l.length := by
  have key : ∀ (n : Nat) (l : List Nat) (p : Nat), l.length ≤ n → ∀ tk ∈ toks p l, tk.2.length ≤ l.length := by
    intro n
    induction n with
    | zero =>
      intro l p h tk ht
      cases l with
      | nil => simp [toks_nil] at ht
      | cons c r => simp at h
    | succ n ih =>
      intro l p h tk ht
      cases l with
      | nil => simp [toks_nil] at ht
      | cons c r =>
        by_cases e : c = 32
        · subst e
          rw [toks_sp] at ht
          have := ih r (p + 1) (by simpa using h) tk ht
          simp only [List.length_cons]
          omega
        · rw [toks_w _ _ _ e] at ht
          rcases List.mem_cons.mp ht with q | q
          · subst q
            rw [List.length_take]
            exact Nat.min_le_right _ _
          · have hp : 0 < wl (c :: r) := by
              unfold wl
              rw [if_neg e]
              omega
            have := ih ((c :: r).drop (wl (c :: r))) _ (by rw [List.length_drop]; simp only [List.length_cons] at h ⊢; omega) tk q
            rw [List.length_drop] at this
            omega
  exact fun tk ht => key l.length l p (Nat.le_refl _) tk ht
section
variable {P : Program} {w : World} {K : PySem.W.Frag} {mg : Str → Option Value} {base : Heap}
abbrev N_read_table : List Str := ["text", "table", "start", "end", "tokens"]
theorem sc_read_table : FnScope N_read_table ["text"] (defScope s_read_table) := ⟨rfl, rfl, rfl, by decide +kernel, rfl, by decide +kernel, by decide +kernel⟩
theorem ok_read_table (c : Ctx K mg) : OkF P w K mg base (L2N.CX P w) 6 "read_table" ["text"] ((fun vs H Q E => ∃ (a : Addr) (t : List Nat), vs = [.ref a] ∧ LN H a t ∧ t.length ≤ 100000 ∧ TabQ Q E H (rdTable t))) := by
  obtain ⟨fd, FT, bT⟩ := fn_TableFault (P := P) (w := w) (base := base) c
  refine okFN (f_read_table c) (g_read_table c) sc_read_table (fun _ _ _ _ _ _ us hl => match us, hl with | [_], _ => rfl) (fun vs H Q E h => by obtain ⟨a, t, rfl, ha, hz, hQ⟩ := h; rfl) fun cdv A outer s H vs Q E hr h => ⟨_, (pss_cons (ps_set (i := 1) sc_read_table.nd rfl (Or.inl rfl) (pmake0 (E := E0) (ok_Table_init c) (hr.mono (by decide)) passL))
      (pss_cons (ps_for PassesOwn.leaving rfl (pi_list (pcall (E := E0) (ok_lines_of c) (hr.mono (by decide)) passL (pa_cons (pv 0) pa_nil))) (pg_tup rfl (pgs_cons (pg_name (i := 2) sc_read_table.nd rfl (Or.inl rfl)) (pgs_cons (pg_name (i := 3) sc_read_table.nd rfl (Or.inl rfl)) pgs_nil))) (pss_cons (ps_set (i := 4) sc_read_table.nd rfl (Or.inl rfl) (pcall (E := E0) (ok_tokens_of c) (hr.mono (by decide)) passL (pa_cons (pv 0) (pa_cons (pv 2) (pa_cons (pv 3) pa_nil)))))
      (pss_one (ps_if (pt_cmpR op_gt (pe_callB (lenK (K := K) rfl) (by rfl) (b_len c) boot_len (pa_cons (pv 4) pa_nil)) pe_int (nomark _)) (pss_one (ps_expr (pcall (ok_read_line c) (hr.mono (by decide)) (L2N.passes_call (L2N.takes_of rfl rfl rfl rfl) (fun _ _ _ _ h => h)) (pa_cons (pv 1) (pa_cons (pv 4) (pa_cons (pv 3) pa_nil)))))) pss_nil))))
      (pss_cons (ps_if (pt_cmpR op_gt (pmeth0 (E := E0) (ok_Table_card_count c) (pv 1) (hr.mono (by decide)) passL) (pgi (i_MOST_CARDS c)) (nomark _)) (pss_one (L2N.ps_raise rfl (L2N.takes_of rfl rfl rfl rfl) (pmk_oexN (er_TableFault c).ox (er_TableFault c).ini (er_TableFault c).fnc FT (hr.mono (by decide)) bT passL rfl (g_TableFault c) (pa_cons (pgi (i_TOO_MANY_CARDS c)) (pa_cons (pe_callB (lenK (K := K) rfl) (by rfl) (b_len c) boot_len (pa_cons (pv 0) pa_nil)) pa_nil))))) pss_nil)
      (pss_cons (ps_if (PW.pt (pw_or (pt_cmpR op_eq (pmeth0 (E := E0) (ok_Table_card_count c) (pv 1) (hr.mono (by decide)) passL) pe_int (nomark _)) (pw_or1 (pt_cmpR op_lt (pmeth0 (E := E0) (ok_Table_player_count c) (pv 1) (hr.mono (by decide)) passL) (pgi (i_FEWEST_PLAYERS c)) (nomark _))))) (pss_one (L2N.ps_raise rfl (L2N.takes_of rfl rfl rfl rfl) (pmk_oexN (er_TableFault c).ox (er_TableFault c).ini (er_TableFault c).fnc FT (hr.mono (by decide)) bT passL rfl (g_TableFault c) (pa_cons (pgi (i_TOO_FEW c)) (pa_cons (pe_callB (lenK (K := K) rfl) (by rfl) (b_len c) boot_len (pa_cons (pv 0) pa_nil)) pa_nil))))) pss_nil)
      (pss_one (ps_ret (pv 1))))))), ?_⟩
  obtain ⟨a, t, rfl, ha, hz, hQ⟩ := h
  unfold rdTable at hQ
  generalize hR : rdLines t Vbndaa.emptyTable (linesP 0 0 t) = R at hQ
  refine fun tb dx htb hdx hne => ⟨tb, dx, rfl, upd_same, fun q H1 b1 hq hT => ⟨rfl, ?_⟩⟩
  have qtb : q ≠ tb := fun e => by rw [e, upd_same] at hq; cases hq
  have qdx : q ≠ dx := fun e => by rw [e, upd_ne hne, upd_same] at hq; cases hq
  have hqH : H q = none := by rw [upd_ne qtb, upd_ne qdx] at hq; exact hq
  have s1 : Same H H1 := fun b o e => b1 b o ((upd_ne (ne_of_none e htb)).trans ((upd_ne (ne_of_none e hdx)).trans e)) (by simp; exact ne_of_none e htb)
  refine ⟨_, rfl, a, t, rfl, s1 _ _ ha, hz, fun L H2 vs s2 hL hv hp => ?_⟩
  have hT2 := hT.same s2
  obtain ⟨_, _, dx2, h3, as2, h4, _⟩ := id hT2
  obtain ⟨_, _, dx1, h3', as1, h4', _⟩ := id hT
  have Lt : L ≠ tb := (ne_of_none h3' hL).symm
  have Lq : L ≠ q := (ne_of_none h4' hL).symm
  have hp2 : Paired (RP0 (drp H2 [tb, q])) vs (linesP 0 0 t) := Paired.mono (fun v p ⟨T, e, hT⟩ => ⟨T, e, drp_at hT (by
    simp only [List.mem_cons, List.not_mem_nil, or_false, not_or]
    exact ⟨fun e => (by rw [e, h3] at hT; cases hT), fun e => (by rw [e, h4] at hT; cases hT)⟩)⟩) hp
  refine ⟨L, rfl, ⟨_, SqL.of hv⟩, for_list (K := K) (a := L) (xs := vs) (fun i σ H' => ∃ (x y u : Option V) (z : Vbndaa.Table), σ = [some (.ref a), some (.ref tb), x, y, u] ∧ Same H H' ∧ TbW H' tb q z ∧ Same (drp H2 [tb, q]) (drp H' [tb, q]) ∧ rdLines t z ((linesP 0 0 t).drop i) = R)
    ⟨none, none, none, _, rfl, s1.trans s2, hT2, Same.refl _, hR⟩ (fun i σ H' _ ⟨_, _, _, _, _, _, _, s, _⟩ => SqL.of (drp_of (s _ _ (drp_at hv (by simp [Lt, Lq])))).1) ?_ ?_⟩
  · rintro i v σ H' hx ⟨x0, y0, u0, z, rfl, s3, hT3, sd, hl⟩
    obtain ⟨p, hpp, T, rfl, hTT⟩ := pr_get hp2 hx
    have hTT' := (drp_of (sd _ _ hTT)).1
    have hin := lines_in (List.mem_of_getElem? hpp)
    refine ⟨T, _, rfl, SqT.of hTT', rfl, _, _, rfl, _, _, rfl, rfl, ?_⟩
    refine ⟨_, rfl, _, rfl, _, rfl, a, t, p.1, p.2, rfl, s3 _ _ ha, hin.1, hin.2, hz, fun tk H4 ws s4 htk hw hps => ?_⟩
    rw [drop_at hpp] at hl
    unfold rdLines at hl
    have hlt : LT H4 tk (toks p.1 (cut t p.1 p.2)) := ⟨ws, hw, hps⟩
    refine ⟨_, rfl, tk, _, rfl, .inl (SqL.of hw), _, _, rfl, rfl, _, rfl, ite2 (fun c1 => ?_) (fun c1 => ?_)⟩
    · have hl4 := hps.length
      have hne : toks p.1 (cut t p.1 p.2) ≠ [] := fun e => by
        rw [e] at hl4
        rw [hl4] at c1
        exact absurd (of_decide_eq_true c1) (by decide)
      refine ⟨_, rfl, _, rfl, _, rfl, tb, q, z, tk, p.2, _, rfl, hT3.same s4, hlt, hne, fun tk h => ?_, ?_⟩
      · have := toks_short tk h
        rw [cut_len hin.2] at this
        omega
      · cases hr : rdLine z (toks p.1 (cut t p.1 p.2)) p.2 with
        | error pe =>
          rw [hr] at hl
          subst hl
          exact fun H5 s5 => hQ H5 ((s3.trans s4).trans s5)
        | ok z' =>
          rw [hr] at hl
          refine fun H5 b5 hT5 => ⟨_, _, _, z', rfl, fun b o e => b5 b o ((s3.trans s4) b o e) ?_, hT5, sd.trans (((s4.but _).trans b5).drp), hl⟩
          simp only [List.mem_cons, List.not_mem_nil, or_false, not_or]
          exact ⟨ne_of_none e htb, ne_of_none e hqH⟩
    · have hl4 := hps.length
      have e : toks p.1 (cut t p.1 p.2) = [] := by
        cases h5 : toks p.1 (cut t p.1 p.2) with
        | nil => rfl
        | cons x y =>
          rw [h5, List.length_cons] at hl4
          exact absurd (decide_eq_true (show (ws.length : Int) > 0 by omega)) c1
      rw [e] at hl
      exact ⟨_, _, _, z, rfl, s3.trans s4, hT3.same s4, sd.trans (But.drp (s4.but _)), hl⟩
  · rintro σ H' ⟨x0, y0, u0, z, rfl, s3, hT3, sd, hl⟩
    rw [hp.length, List.drop_of_length_le (Nat.le_refl _)] at hl
    unfold rdLines at hl
    subst hl
    obtain ⟨_, _, dx3, h5, _⟩ := id hT3
    refine ⟨_, rfl, tb, _, _, rfl, h5, rfl, tb, q, z, rfl, hT3, _, _, rfl, rfl, _, rfl, ?_⟩
    simp only at hQ
    by_cases c1 : 52 < Vbndaa.deckSize z.deck
    · rw [if_pos c1] at hQ
      rw [decide_eq_true (show (52 : Int) < (Vbndaa.deckSize z.deck : Int) by omega)]
      refine ⟨_, rfl, a, _, rfl, .inl (SqL.of (s3 _ _ ha)), mk_err2 ?_⟩
      rw [List.length_map]
      exact hQ H' s3
    · rw [if_neg c1] at hQ
      rw [decide_eq_false (show ¬ (52 : Int) < (Vbndaa.deckSize z.deck : Int) by omega)]
      refine ⟨_, rfl, tb, _, _, rfl, h5, rfl, tb, q, z, rfl, hT3, ?_⟩
      have fail : Vbndaa.deckSize z.deck = 0 ∨ z.players.length < 2 → Ff E H' 9 t.length := fun h => by
        rw [if_pos h] at hQ
        exact hQ H' s3
      refine ⟨rfl, _, rfl, ite2 (fun c2 => ?_) (fun c2 => ?_)⟩
      · have c2' : Vbndaa.deckSize z.deck = 0 := nv_inj (b := 0) (of_decide_eq_true c2)
        refine ⟨_, rfl, a, _, rfl, .inl (SqL.of (s3 _ _ ha)), mk_err2 ?_⟩
        rw [List.length_map]
        exact fail (.inl c2')
      · have c2' : Vbndaa.deckSize z.deck ≠ 0 := fun e => c2 (decide_eq_true (show V.int ((Vbndaa.deckSize z.deck : Nat) : Int) = V.int 0 by rw [e]; rfl))
        refine ⟨_, rfl, tb, _, _, rfl, h5, rfl, tb, q, z, rfl, hT3, _, _, rfl, rfl, _, rfl, ite2 (fun c3 => ?_) (fun c3 => ?_)⟩
        · have this : (z.players.length : Int) < 2 := of_decide_eq_true c3
          refine ⟨_, rfl, a, _, rfl, .inl (SqL.of (s3 _ _ ha)), mk_err2 ?_⟩
          rw [List.length_map]
          exact fail (.inr (by omega))
        · have c3' : ¬ ((z.players.length : Int) < 2) := fun e => c3 (decide_eq_true e)
          rw [if_neg (by omega)] at hQ
          exact ⟨_, rfl, hQ tb q H' s3 hT3⟩
end
/-! ### the specification reads alike -/
def ex {α : Type} : Except (Nat × Nat) α → Except Vbndaa.ParseError α
  | .error p => .error ⟨p.1, p.2⟩
  | .ok z => .ok z
theorem get_tok {ts : List Vbndaa.Token} {i : Nat} : (ts.map fun x => (x.offset, x.bytes))[i]? = (ts[i]?).map fun x => (x.offset, x.bytes) := List.getElem?_map
theorem parse_name_eq {z : Vbndaa.Table} {k : Nat} {t0 : Vbndaa.Token} {tr : List Vbndaa.Token} {e : Nat} (had : List (List Nat)) (hu : used z k = had) :
    (match Vbndaa.parseNewName had ⟨tr, e⟩ with
      | .error p => .error p
      | .ok n => .ok (dec z k n)) = ex (match ((t0 :: tr).map fun x => (x.offset, x.bytes))[1]? with
        | none => .error (1, e)
        | some tk => if isName tk.2 = false then .error (1, tk.1) else if (used z k).contains tk.2 = true then .error (4, tk.1) else match ((t0 :: tr).map fun x => (x.offset, x.bytes))[2]? with
          | some t3 => .error (1, t3.1)
          | none => .ok (dec z k tk.2)) := by
  subst hu
  cases tr with
  | nil => rfl
  | cons t1 tr =>
    simp only [Vbndaa.parseNewName, Vbndaa.parseName, Vbndaa.parseToken, List.map_cons, List.getElem?_cons_succ, List.getElem?_cons_zero]
    have hn : (Vbndaa.isIdentifier t1.bytes = true ∧ Vbndaa.reservedWords.contains t1.bytes = false) ↔ isName t1.bytes = true := by
      unfold isName
      rw [Bool.and_eq_true, Bool.not_eq_true']
    cases h : isName t1.bytes with
    | false =>
      rw [if_neg (fun q => by rw [hn.mp q] at h; cases h), if_pos rfl]
      rfl
    | true =>
      rw [if_pos (hn.mpr h), if_neg (by decide)]
      simp only
      cases hc : (used z k).contains t1.bytes with
      | true => rfl
      | false =>
        simp only [Bool.false_eq_true, if_false]
        cases tr with
        | nil => rfl
        | cons t2 tr => rfl
theorem name_line {z : Vbndaa.Table} {k : Nat} {t0 : Vbndaa.Token} {tr : List Vbndaa.Token} {e m : Nat} {had ws : List (List Nat)} (hu : used z k = had) (hk : (tn z)[k]? = some ws) (hm : most.getD k 0 = m) (hle : ws.length ≤ m) :
    (if m ≤ ws.length then .error ⟨7, t0.offset⟩ else match Vbndaa.parseNewName had ⟨tr, e⟩ with
      | .error p => .error p
      | .ok n => .ok (dec z k n)) = ex (rdName z k ((t0 :: tr).map fun x => (x.offset, x.bytes)) e) := by
  unfold rdName
  rw [hk, hm]
  simp only [Option.getD_some]
  by_cases l : ws.length = m
  · rw [if_pos (by omega), if_pos l]
    rfl
  · rw [if_neg (by omega), if_neg l]
    exact parse_name_eq had hu
theorem copies_line {z : Vbndaa.Table} {t0 : Vbndaa.Token} {tr : List Vbndaa.Token} {e : Nat} :
    (match Vbndaa.parseNatInRange 1 4 ⟨tr, e⟩ with
      | .error p => .error p
      | .ok (n, y) => Vbndaa.expectEnd 1 { z with deck := { z.deck with copies := n } } y) = ex (rdCopies z ((t0 :: tr).map fun x => (x.offset, x.bytes)) e) := by
  unfold rdCopies
  cases tr with
  | nil => rfl
  | cons t1 tr =>
    simp only [List.map_cons, List.getElem?_cons_succ, List.getElem?_cons_zero, Vbndaa.parseNatInRange, Vbndaa.parseToken]
    have hn : isNum t1.bytes = (Vbndaa.natOfToken 3 t1.bytes).isSome := rfl
    cases h : Vbndaa.natOfToken 3 t1.bytes with
    | none =>
      rw [h] at hn
      rw [hn]
      rfl
    | some v =>
      rw [h] at hn
      have hv : v = Vbndaa.valueOf t1.bytes := by
        unfold Vbndaa.natOfToken at h
        split at h
        · cases h
        · cases h
          rfl
      subst hv
      rw [hn]
      simp only [Option.isSome_some, Bool.true_eq_false, if_false]
      by_cases c : 1 ≤ Vbndaa.valueOf t1.bytes ∧ Vbndaa.valueOf t1.bytes ≤ 4
      · rw [if_pos c, if_pos c]
        cases tr with
        | nil => rfl
        | cons t2 tr => rfl
      · rw [if_neg c, if_neg c]
        rfl
theorem parse_line_eq {z : Vbndaa.Table} (hz : Wz z) {ts : List Vbndaa.Token} {e : Nat} (h : ts ≠ []) : Vbndaa.parseTableLine z ⟨ts, e⟩ = ex (rdLine z (ts.map fun x => (x.offset, x.bytes)) e) := by
  obtain ⟨t0, tr, rfl⟩ : ∃ a b, ts = a :: b := by
    cases ts with
    | nil => exact absurd rfl h
    | cons a b => exact ⟨a, b, rfl⟩
  obtain ⟨w1, w2, w3, w4, _⟩ := hz
  have beq : ∀ (s : String), (Vbndaa.nextTokenIs (Vbndaa.toBytes s) ⟨t0 :: tr, e⟩ = true) = (t0.bytes = Vbndaa.toBytes s) := fun s => by
    show ((t0.bytes == Vbndaa.toBytes s) = true) = _
    rw [beq_iff_eq]
  have rd : ∀ k, kindW t0.bytes = some k → rdLine z ((t0 :: tr).map fun x => (x.offset, x.bytes)) e = rdName z k ((t0 :: tr).map fun x => (x.offset, x.bytes)) e := fun k hk => by
    unfold rdLine
    simp only [List.map_cons, hk]
  unfold Vbndaa.parseTableLine
  simp only [beq, Vbndaa.skipToken, List.drop_succ_cons, List.drop_zero]
  by_cases c0 : t0.bytes = Vbndaa.toBytes "suit"
  · rw [if_pos c0, rd 0 (by unfold kindW; rw [if_pos c0])]
    exact name_line (k := 0) rfl rfl rfl w1
  · rw [if_neg c0]
    by_cases c1 : t0.bytes = Vbndaa.toBytes "rank"
    · rw [if_pos c1, rd 1 (by unfold kindW; rw [if_neg c0, if_pos c1])]
      exact name_line (k := 1) rfl rfl rfl w2
    · rw [if_neg c1]
      by_cases c2 : t0.bytes = Vbndaa.toBytes "extra"
      · rw [if_neg (show ¬ t0.bytes = Vbndaa.toBytes "copies" by rw [c2]; decide), if_pos c2, rd 2 (by unfold kindW; rw [if_neg c0, if_neg c1, if_pos c2])]
        exact name_line (k := 2) rfl rfl rfl w3
      · by_cases c3 : t0.bytes = Vbndaa.toBytes "player"
        · rw [if_neg (show ¬ t0.bytes = Vbndaa.toBytes "copies" by rw [c3]; decide), if_neg c2, if_pos c3, rd 3 (by unfold kindW; rw [if_neg c0, if_neg c1, if_neg c2, if_pos c3])]
          exact name_line (k := 3) rfl rfl rfl w4
        · have kn : kindW t0.bytes = none := by unfold kindW; rw [if_neg c0, if_neg c1, if_neg c2, if_neg c3]
          have r2 : rdLine z ((t0 :: tr).map fun x => (x.offset, x.bytes)) e = if t0.bytes = Vbndaa.toBytes "copies" then rdCopies z ((t0 :: tr).map fun x => (x.offset, x.bytes)) e else .error (1, t0.offset) := by
            unfold rdLine
            simp only [List.map_cons, kn]
          rw [r2]
          by_cases c4 : t0.bytes = Vbndaa.toBytes "copies"
          · rw [if_pos c4, if_pos c4]
            exact copies_line
          · rw [if_neg c4, if_neg c4, if_neg c2, if_neg c3]
            rfl
theorem wz_line {z z' : Vbndaa.Table} {tks : List (Nat × List Nat)} {e : Nat} (hz : Wz z) (h : rdLine z tks e = .ok z') : Wz z' := by
  unfold rdLine at h
  split at h
  · cases h
    exact hz
  · split at h
    · rename_i k hk
      have hk4 := kindW_lt hk
      obtain ⟨ws, hws⟩ := tn_at (z := z) hk4
      unfold rdName at h
      rw [hws] at h
      simp only [Option.getD_some] at h
      split at h
      · cases h
      · rename_i hl
        split at h
        · cases h
        · split at h
          · cases h
          · rename_i hn
            split at h
            · cases h
            · rename_i hu
              split at h
              · cases h
              · cases h
                exact (dec_wz hz hws hl (by simpa using hn) (by simpa using hu)).1
    · split at h
      · unfold rdCopies at h
        split at h
        · cases h
        · split at h
          · cases h
          · split at h
            · rename_i hr
              split at h
              · cases h
              · cases h
                obtain ⟨w1, w2, w3, w4, w5, w6, w7⟩ := hz
                exact ⟨w1, w2, w3, w4, hr.1, hr.2, w7⟩
            · cases h
      · cases h
theorem wz_lines {t : List Nat} : ∀ {ls : List (Nat × Nat)} {z z' : Vbndaa.Table}, Wz z → rdLines t z ls = .ok z' → Wz z'
  | [], z, z', hz, h => by
    cases h
    exact hz
  | p :: r, z, z', hz, h => by
    unfold rdLines at h
    split at h
    · cases h
    · rename_i hl
      exact wz_lines (wz_line hz hl) h
theorem cut_lines : ∀ (r : List Nat) (p : Nat) (t : List Nat), t.drop p = r → ∀ x ∈ Vbndaa.splitAtByte 10 p r, cut t x.1 (x.1 + x.2.length) = x.2
  | [], p, t, h, x, hx => by
    obtain rfl : x = (p, []) := by simpa [Vbndaa.splitAtByte] using hx
    show (t.drop p).take _ = _
    rw [h]
    simp
  | c :: r, p, t, h, x, hx => by
    have hd : t.drop (p + 1) = r := by
      rw [← List.drop_drop, h]
      rfl
    have ih := cut_lines r (p + 1) t hd
    unfold Vbndaa.splitAtByte at hx
    by_cases e : c = 10
    · rw [if_pos e] at hx
      rcases List.mem_cons.mp hx with q | q
      · subst q
        show (t.drop p).take _ = _
        simp
      · exact ih x q
    · rw [if_neg e] at hx
      obtain ⟨l, rest, h1, _⟩ := lines_is r 0 (p + 1)
      rw [h1] at hx ih
      simp only at hx
      rcases List.mem_cons.mp hx with q | q
      · subst q
        have := ih (p + 1, l) (by simp)
        show (t.drop p).take (p + (c :: l).length - p) = c :: l
        rw [h, List.length_cons, show p + (l.length + 1) - p = l.length + 1 by omega, List.take_succ_cons]
        congr 1
        have e2 : (t.drop (p + 1)).take (p + 1 + l.length - (p + 1)) = l := this
        rw [hd, show p + 1 + l.length - (p + 1) = l.length by omega] at e2
        exact e2
      · exact ih x (by simp [q])
theorem parse_lines_eq {t : List Nat} : ∀ {ls : List (Nat × List Nat)} {z : Vbndaa.Table}, Wz z → (∀ x ∈ ls, cut t x.1 (x.1 + x.2.length) = x.2) →
    Vbndaa.parseLines Vbndaa.noSeparators Vbndaa.parseTableLine z ls = ex (rdLines t z (ls.map fun x => (x.1, x.1 + x.2.length)))
  | [], z, _, _ => rfl
  | x :: l, z, hz, hc => by
    have ih := fun {z'} (h : Wz z') => parse_lines_eq (t := t) (ls := l) (z := z') h fun y hy => hc y (by simp [hy])
    have e1 : rdLines t z ((x :: l).map fun x => (x.1, x.1 + x.2.length)) = match rdLine z (toks x.1 x.2) (x.1 + x.2.length) with
        | .error e => .error e
        | .ok z' => rdLines t z' (l.map fun x => (x.1, x.1 + x.2.length)) := by
      conv => lhs; unfold rdLines
      rw [List.map_cons]
      simp only
      rw [hc x (by simp)]
    rw [e1]
    unfold Vbndaa.parseLines
    by_cases em : (Vbndaa.tokenizeWith Vbndaa.noSeparators x.1 x.2).isEmpty = true
    · rw [if_pos em]
      have e2 : toks x.1 x.2 = [] := by
        unfold toks
        rw [List.isEmpty_iff.mp em]
        rfl
      rw [e2]
      exact ih hz
    · rw [if_neg em]
      have hne : Vbndaa.tokenizeWith Vbndaa.noSeparators x.1 x.2 ≠ [] := fun e => em (by rw [e]; rfl)
      have e3 := parse_line_eq hz (e := x.1 + x.2.length) hne
      have e4 : Vbndaa.parseTableLine z (Vbndaa.cursorOf Vbndaa.noSeparators x.1 x.2) = ex (rdLine z (toks x.1 x.2) (x.1 + x.2.length)) := e3
      rw [e4]
      cases hr : rdLine z (toks x.1 x.2) (x.1 + x.2.length) with
      | error p => rfl
      | ok z' => exact ih (wz_line hz hr)
theorem parse_table_eq (t : List Nat) : Vbndaa.parseTable t = ex (rdTable t) := by
  unfold Vbndaa.parseTable rdTable Vbndaa.parseText
  rw [parse_lines_eq wz_empty (cut_lines t 0 t rfl), ← lines_split]
  cases h : rdLines t Vbndaa.emptyTable (linesP 0 0 t) with
  | error p => rfl
  | ok z =>
    simp only [ex]
    by_cases c1 : 52 < Vbndaa.deckSize z.deck
    · rw [if_pos c1, if_pos (show Vbndaa.maxCards < _ from c1)]
    · rw [if_neg c1, if_neg (show ¬ Vbndaa.maxCards < _ from c1)]
      by_cases c2 : Vbndaa.deckSize z.deck = 0 ∨ z.players.length < 2
      · rw [if_pos c2, if_pos c2]
      · rw [if_neg c2, if_neg c2]
/-- a table that was read -/
def Wt (z : Vbndaa.Table) : Prop := Wz z ∧ Vbndaa.deckSize z.deck ≤ 52 ∧ 0 < Vbndaa.deckSize z.deck ∧ 2 ≤ z.players.length
theorem wt_table {t : List Nat} {z : Vbndaa.Table} (h : rdTable t = .ok z) : Wt z := by
  unfold rdTable at h
  split at h
  · cases h
  · rename_i z' hl
    split at h
    · cases h
    · split at h
      · cases h
      · cases h
        refine ⟨wz_lines wz_empty hl, by omega, by omega, by omega⟩

end VD
namespace VD
open PySem PySem.Spec PyProof.Rows L2
section
variable {P : Program} {w : World} {K : PySem.W.Frag} {mg : Str → Option Value} {base : Heap}
theorem kw_at {k : Nat} (h : k < 4) : ∃ z : Str, ([.str (Str.ofString "suit"), .str (Str.ofString "rank"), .str (Str.ofString "extra"), .str (Str.ofString "player")] : List V)[k]? = some (.str z) ∧ z.cps.toList = kw.getD k [] ∧ kw.getD k [] ≠ [] ∧ (kw.getD k []).length ≤ 6 := by
  match k, h with
  | 0, _ => exact ⟨_, rfl, by decide +kernel, by decide +kernel, by decide +kernel⟩
  | 1, _ => exact ⟨_, rfl, by decide +kernel, by decide +kernel, by decide +kernel⟩
  | 2, _ => exact ⟨_, rfl, by decide +kernel, by decide +kernel, by decide +kernel⟩
  | 3, _ => exact ⟨_, rfl, by decide +kernel, by decide +kernel, by decide +kernel⟩
theorem isName_pos {w : List Nat} (h : isName w = true) : w ≠ [] := fun e => by
  subst e
  cases h
theorem wz_names {z : Vbndaa.Table} (h : Wz z) {k : Nat} {ws : List (List Nat)} (hk : (tn z)[k]? = some ws) : ∀ w ∈ ws, isName w = true := by
  obtain ⟨_, _, _, _, _, _, h7, h8, h9, _⟩ := h
  match k, hk with
  | 0, hk => cases hk; exact fun w hw => h7 w (List.mem_append_left _ hw)
  | 1, hk => cases hk; exact h8
  | 2, hk => cases hk; exact fun w hw => h7 w (List.mem_append_right _ hw)
  | 3, hk => cases hk; exact h9
  | n + 4, hk => simp [tn] at hk
def lineN (k : Nat) (n : List Nat) : List Nat := Vbndaa.joinWithSpaces [kw.getD k [], n] ++ [10]
def nameL (z : Vbndaa.Table) (k : Nat) : List Nat := ((tn z)[k]?.getD []).flatMap (lineN k)
theorem flat_le {α : Type} {f : α → List Nat} {m : Nat} : ∀ {l : List α}, (∀ x ∈ l, (f x).length ≤ m) → (l.flatMap f).length ≤ l.length * m
  | [], _ => by simp
  | x :: l, h => by
    have := flat_le (l := l) fun y hy => h y (by simp [hy])
    have h1 := h x (by simp)
    rw [List.flatMap_cons, List.length_append, List.length_cons, Nat.succ_mul]
    omega
theorem lineN_len {k : Nat} (hk : k < 4) {n : List Nat} (h : isName n = true) : (lineN k n).length ≤ 20 := by
  obtain ⟨_, _, _, _, h1⟩ := kw_at hk
  have := isName_len h
  unfold lineN
  show (kw.getD k [] ++ 32 :: n ++ [10]).length ≤ 20
  simp only [List.length_append, List.length_cons, List.length_nil]
  omega
theorem nameL_len {z : Vbndaa.Table} (h : Wz z) {k : Nat} (hk : k < 4) : (nameL z k).length ≤ 300 := by
  obtain ⟨ws, hws⟩ := tn_at (z := z) hk
  obtain ⟨m, _, h1, h2⟩ := wz_kind h hws
  unfold nameL
  rw [hws]
  have := flat_le (m := 20) (f := lineN k) fun x hx => lineN_len hk (wz_names h hws x hx)
  simp only [Option.getD_some]
  omega
abbrev N_name_lines : List Str := ["table", "kind", "found", "name"]
theorem sc_name_lines : FnScope N_name_lines ["table", "kind"] (defScope s_name_lines) := ⟨rfl, rfl, rfl, by decide +kernel, rfl, by decide +kernel, by decide +kernel⟩
theorem ok_name_lines (c : Ctx K mg) : OkF P w K mg base (L2.CX P w) 2 "name_lines" ["table", "kind"] ((fun vs H Q _ => ∃ t q z k, vs = [.ref t, nv k] ∧ TbW H t q z ∧ k < 4 ∧ RetN Q H (nameL z k))) := by
  refine okF (f_name_lines c) (g_name_lines c) sc_name_lines (fun _ _ _ _ _ _ us hl => match us, hl with | [_, _], _ => rfl) (fun vs H Q E h => by obtain ⟨t, q, z, k, rfl, h, hk, hQ⟩ := h; rfl) fun cdv A outer s H vs Q E hr h => ⟨_, (pss_cons (ps_set (i := 2) sc_name_lines.nd rfl (Or.inl rfl) (pe_lst pa_nil))
      (pss_cons (ps_for PassesOwn.leaving rfl (pi_list (pe_ix (ix_listK (K := K) rfl) (pe_fldK (K := K) rfl (pv 0)) (pv 1) (fun _ _ => rfl))) (pg_name (i := 3) sc_name_lines.nd rfl (Or.inl rfl)) (pss_one (ps_expr (pe_bm PySem.F.plainAttrs_list PySem.F.slot_list_extend PySem.F.type_list_extend mt_extend (pv 2) (pa_cons (pe_op op_cat (pcall (E := E0) (ok_line_of c) (hr.mono (by decide)) passL (pa_cons (pe_lst (pa_cons (pcall (E := E0) (ok_bytes_of c) (hr.mono (by decide)) passL (pa_cons (pe_ix (ix_tupK (K := K) rfl) (pgr (g_KIND_WORDS c)) (pv 1) (fun _ _ => rfl)) pa_nil)) (pa_cons (pv 3) pa_nil))) pa_nil)) (pe_lst (pa_cons (pgi (i_LINE_END c)) pa_nil))) pa_nil)))))
      (pss_one (ps_ret (pv 2))))), ?_⟩
  obtain ⟨t, q, z, k, rfl, h, hk, hQ⟩ := h
  obtain ⟨ws, hws⟩ := tn_at (z := z) hk
  obtain ⟨m, _, hm1, hm2⟩ := wz_kind h.wz hws
  obtain ⟨dx, as, a, h1, h2, h3, h4⟩ := h.kind hws
  obtain ⟨zk, hz1, hz2, hz3, hz4⟩ := kw_at hk
  have hnm := wz_names h.wz hws
  obtain ⟨us, g1, g2⟩ := h4
  unfold nameL at hQ
  rw [hws] at hQ
  simp only [Option.getD_some] at hQ
  refine ⟨Nat.zero_le _, fun f hf => ?_⟩
  have s0 := Same.new (o := .lst []) hf
  refine ⟨_, rfl, t, _, _, _, _, rfl, s0 _ _ h1, cl_Table c, na_Table_names c, rfl, _, rfl, q, _, (k : Int), _, rfl, rfl, SqL.of (s0 _ _ h2), atI_nat h3, a, rfl, ⟨_, SqL.of (s0 _ _ g1)⟩, ?_⟩
  refine for_list (K := K) (a := a) (xs := us.map V.ref) (fun i σ H' => ∃ x, σ = [some (.ref t), some (nv k), some (.ref f), x] ∧ AcAt RV0 H f (((ws.take i).flatMap (lineN k)).map nv) H') ⟨none, rfl, AcAt.start hf⟩ (fun i σ H' _ ⟨_, _, p⟩ => SqL.of (p.same0 _ _ g1)) ?_ ?_
  · rintro i x σ H' hx ⟨x0, rfl, p⟩
    obtain ⟨b, hb, rfl⟩ := map_at hx
    obtain ⟨wd, hw, hwd⟩ := pr_get g2 hb
    have hwn := hnm wd (List.mem_of_getElem? hw)
    have hwl := isName_len hwn
    obtain ⟨vs, hv, hp⟩ := p.done rv0_mono
    obtain rfl := rv0_eq hp
    have hT := take_succ hw
    have hle : ((ws.take i).flatMap (lineN k)).length ≤ 300 := by
      have := flat_le (m := 20) (l := ws.take i) (f := lineN k) fun x hx => lineN_len hk (hnm x (List.mem_of_mem_take hx))
      rw [List.length_take] at this
      have : min i ws.length ≤ 15 := by omega
      omega
    refine ⟨_, rfl, .inl ⟨rfl, _, SqL.of hv⟩, ?_⟩
    refine ⟨_, rfl, t_KIND_WORDS, _, (k : Int), _, rfl, rfl, tp_217 c H', atI_nat hz1, zk, kw.getD k [], rfl, hz2, by omega, fun p1 H1 s1 hp1 hv1 => ?_⟩
    refine ⟨_, rfl, by show 2 ≤ sizeLine; decide, fun p2 hp2 => ?_⟩
    have s2 := s1.trans (Same.new (o := .lst [.ref p1, .ref b]) hp2)
    refine ⟨p2, [kw.getD k [], wd], rfl, ⟨[p1, b], upd_same, .cons ((upd_ne (ne_of_none hv1 hp2)).trans hv1) (.cons (s2 _ _ (p.same0 _ _ hwd)) .nil)⟩, ?_, ?_, fun p3 H3 s3 hp3 hv3 => ?_⟩
    · intro w hw
      simp only [List.mem_cons, List.not_mem_nil, or_false] at hw
      rcases hw with e | e <;> rw [e]
      · exact hz3
      · exact isName_pos hwn
    · have := lineN_len hk hwn
      unfold lineN at this
      rw [List.length_append] at this
      omega
    have s13 := s2.trans s3
    refine ⟨by show 1 ≤ sizeLine; decide, fun p4 hp4 => ?_⟩
    have s4 := s13.trans (Same.new (o := .lst [.int 10]) hp4)
    have hln := lineN_len hk hwn
    refine ⟨p3, p4, _, _, rfl, rfl, (upd_ne (ne_of_none hv3 hp4)).trans hv3, upd_same, ?_, fun p5 hp5 => ?_⟩
    · unfold lineN at hln
      rw [List.length_append] at hln
      rw [sizeLine_eq, List.length_map]
      show _ + 1 ≤ _
      omega
    have e5 : (Vbndaa.joinWithSpaces [kw.getD k [], wd]).map nv ++ [.int 10] = (lineN k wd).map nv := by
      unfold lineN
      rw [List.map_append]
      rfl
    rw [e5]
    have s5 := s4.trans (Same.new (o := .lst ((lineN k wd).map nv)) hp5)
    refine ⟨f, p5, _, _, rfl, rfl, s5 _ _ hv, upd_same, by rw [sizeLine_eq, List.length_map, List.length_map]; omega, ?_⟩
    refine ⟨_, rfl, ?_⟩
    have p3 := (p.grow rv0_mono s5).adds (s5 _ _ hv) (rv0_self (H := drp _ [f]) ((lineN k wd).map nv))
    rw [← List.map_append] at p3 ⊢
    rw [hT, List.flatMap_append, List.flatMap_cons, List.flatMap_nil, List.append_nil]
    exact p3
  · rintro σ H' ⟨x0, rfl, p⟩
    obtain ⟨vs, hv, hp⟩ := p.done rv0_mono
    obtain rfl := rv0_eq hp
    refine ⟨_, rfl, hQ f H' p.same0 hf ?_⟩
    rw [List.length_map, g2.length, List.take_of_length_le (Nat.le_refl _)] at hv
    exact hv
theorem dec_cps (n : Nat) : (Str.ofString (toString (n : Int))).cps.toList = Vbndaa.decimalBytes n := ofString_cps _
theorem log_small {n : Nat} (h : n < 1000) : ((n : Int)).natAbs.log2 < 1920 := by
  rw [Int.natAbs_natCast]
  have := Nat.log2_le_self n
  omega
theorem dec_len {n : Nat} (h : n < 61) : Vbndaa.decimalBytes n ≠ [] ∧ (Vbndaa.decimalBytes n).length ≤ 3 := by
  have key : ∀ n, n < 61 → Vbndaa.decimalBytes n ≠ [] ∧ (Vbndaa.decimalBytes n).length ≤ 3 := by decide +kernel
  exact key n h
def copiesL (n : Nat) : List Nat := Vbndaa.joinWithSpaces [Vbndaa.toBytes "copies", Vbndaa.decimalBytes n] ++ [10]
theorem print_eq (z : Vbndaa.Table) : Vbndaa.printTable z = (((nameL z 0 ++ nameL z 1) ++ copiesL z.deck.copies) ++ nameL z 2) ++ nameL z 3 := by
  have e : ∀ (k : Nat) (ws : List (List Nat)) (s : String), (tn z)[k]? = some ws → kw.getD k [] = Vbndaa.toBytes s → (ws.map fun n => Vbndaa.joinWithSpaces [Vbndaa.toBytes s, n]).flatMap (fun l => l ++ [10]) = nameL z k := fun k ws s h1 h2 => by
    unfold nameL lineN
    rw [h1, h2, List.flatMap_map]
    rfl
  unfold Vbndaa.printTable
  rw [List.flatMap_append, List.flatMap_append, List.flatMap_cons, List.flatMap_append]
  rw [e 0 _ "suit" rfl rfl, e 1 _ "rank" rfl rfl, e 2 _ "extra" rfl rfl, e 3 _ "player" rfl rfl]
  simp only [List.append_assoc, copiesL]
theorem RetN.cat {H H1 : Hp} {p b : Addr} {xs ys : List Nat} {Q : VK} (h1 : LN H1 p xs) (h2 : LN H1 b ys) (hz : xs.length + ys.length ≤ 1000000) (s : Same H H1) (k : ∀ q H2, Same H H2 → Same H1 H2 → H1 q = none → LN H2 q (xs ++ ys) → Q (.ref q) H2) : rCat (.ref p) (.ref b) H1 Q :=
  ⟨p, b, _, _, rfl, rfl, h1, h2, by rw [sizeLine_eq, List.length_map, List.length_map]; omega, fun q hq => k q _ (s.trans (Same.new hq)) (Same.new hq) hq (by rw [← List.map_append]; exact upd_same)⟩
abbrev N_text_of : List Str := ["table", "copies", "ahead"]
theorem sc_text_of : FnScope N_text_of ["table"] (defScope s_text_of) := ⟨rfl, rfl, rfl, by decide +kernel, rfl, by decide +kernel, by decide +kernel⟩
theorem ok_text_of (c : Ctx K mg) : OkF P w K mg base (L2.CX P w) 3 "text_of" ["table"] ((fun vs H Q _ => ∃ t q z, vs = [.ref t] ∧ TbW H t q z ∧ RetN Q H (Vbndaa.printTable z))) := by
  refine okF (f_text_of c) (g_text_of c) sc_text_of (fun _ _ _ _ _ _ us hl => match us, hl with | [_], _ => rfl) (fun vs H Q E h => by obtain ⟨t, q, z, rfl, h, hQ⟩ := h; rfl) fun cdv A outer s H vs Q E hr h => ⟨_, (pss_cons (ps_set (i := 1) sc_text_of.nd rfl (Or.inl rfl) (pe_op op_cat (pcall (E := E0) (ok_line_of c) (hr.mono (by decide)) passL (pa_cons (pe_lst (pa_cons (pcall (E := E0) (ok_bytes_of c) (hr.mono (by decide)) passL (pa_cons pe_str pa_nil)) (pa_cons (pcall (E := E0) (ok_bytes_of c) (hr.mono (by decide)) passL (pa_cons (pe_callTy call_str_int (by rfl) (b_str c) (by decide +kernel) (pa_cons (pe_fldK (K := K) rfl (pv 0)) pa_nil)) pa_nil)) pa_nil))) pa_nil)) (pe_lst (pa_cons (pgi (i_LINE_END c)) pa_nil))))
      (pss_cons (ps_set (i := 2) sc_text_of.nd rfl (Or.inl rfl) (pe_op op_cat (pcall (E := E0) (ok_name_lines c) (hr.mono (by decide)) passL (pa_cons (pv 0) (pa_cons (pgi (i_SUIT c)) pa_nil))) (pcall (E := E0) (ok_name_lines c) (hr.mono (by decide)) passL (pa_cons (pv 0) (pa_cons (pgi (i_RANK_tables c)) pa_nil)))))
      (pss_one (ps_ret (pe_op op_cat (pe_op op_cat (pe_op op_cat (pv 2) (pv 1)) (pcall (E := E0) (ok_name_lines c) (hr.mono (by decide)) passL (pa_cons (pv 0) (pa_cons (pgi (i_EXTRA c)) pa_nil)))) (pcall (E := E0) (ok_name_lines c) (hr.mono (by decide)) passL (pa_cons (pv 0) (pa_cons (pgi (i_PLAYER c)) pa_nil)))))))), ?_⟩
  obtain ⟨t, q, z, rfl, h, hQ⟩ := h
  rw [print_eq] at hQ
  have hw := h.wz
  obtain ⟨w0, tq, dx, h1, _⟩ := id h
  obtain ⟨_, _, _, _, _, hc, _⟩ := id hw
  have dl := dec_len (n := z.deck.copies) (by omega)
  have l0 := nameL_len hw (k := 0) (by decide)
  have l1 := nameL_len hw (k := 1) (by decide)
  have l2 := nameL_len hw (k := 2) (by decide)
  have l3 := nameL_len hw (k := 3) (by decide)
  refine ⟨_, Vbndaa.toBytes "copies", rfl, ofString_cps _, by decide +kernel, fun p1 H1 s1 hp1 hv1 => ?_⟩
  refine ⟨_, rfl, t, _, _, _, _, rfl, s1 _ _ h1, cl_Table c, na_Table_copies c, rfl, _, rfl, log_small (by omega), _, Vbndaa.decimalBytes z.deck.copies, rfl, dec_cps _, by omega, fun p2 H2 s2 hp2 hv2 => ?_⟩
  refine ⟨by show 2 ≤ sizeLine; decide, fun p3 hp3 => ?_⟩
  have s3 := (s1.trans s2).trans (Same.new (o := .lst [.ref p1, .ref p2]) hp3)
  have cl : (copiesL z.deck.copies).length ≤ 100 := by
    unfold copiesL
    show (Vbndaa.toBytes "copies" ++ 32 :: Vbndaa.decimalBytes z.deck.copies ++ [10]).length ≤ 100
    have : (Vbndaa.toBytes "copies").length = 6 := by decide +kernel
    simp only [List.length_append, List.length_cons, List.length_nil]
    omega
  refine ⟨p3, [Vbndaa.toBytes "copies", Vbndaa.decimalBytes z.deck.copies], rfl, ⟨[p1, p2], upd_same, .cons ((upd_ne (ne_of_none (s2 _ _ hv1) hp3)).trans (s2 _ _ hv1)) (.cons ((upd_ne (ne_of_none hv2 hp3)).trans hv2) .nil)⟩, ?_, ?_, fun p4 H4 s4 hp4 hv4 => ?_⟩
  · intro w hw
    simp only [List.mem_cons, List.not_mem_nil, or_false] at hw
    rcases hw with e | e <;> rw [e]
    · decide +kernel
    · exact dl.1
  · unfold copiesL at cl
    rw [List.length_append] at cl
    omega
  have s04 := s3.trans s4
  refine ⟨by show 1 ≤ sizeLine; decide, fun p5 hp5 => ?_⟩
  have s5 := s04.trans (Same.new (o := .lst [.int 10]) hp5)
  refine RetN.cat (ys := [10]) ((upd_ne (ne_of_none hv4 hp5)).trans hv4) upd_same (by unfold copiesL at cl; rw [List.length_append] at cl; omega) s5 fun p6 H6 s6 s56 hp6 hv6 => ?_
  have hv6 : LN H6 p6 (copiesL z.deck.copies) := hv6
  refine ⟨_, rfl, t, q, z, 0, rfl, h.same s6, by decide, fun p7 H7 s7 hp7 hv7 => ?_⟩
  refine ⟨_, rfl, t, q, z, 1, rfl, h.same (s6.trans s7), by decide, fun p8 H8 s8 hp8 hv8 => ?_⟩
  refine RetN.cat (s8 _ _ hv7) hv8 (by omega) ((s6.trans s7).trans s8) fun p9 H9 s9 s89 hp9 hv9 => ?_
  have hv6' := s89 _ _ (s8 _ _ (s7 _ _ hv6))
  refine ⟨_, rfl, _, rfl, RetN.cat hv9 hv6' (by rw [List.length_append]; omega) s9 fun p10 H10 s10 _ hp10 hv10 => ?_⟩
  refine ⟨_, rfl, t, q, z, 2, rfl, h.same s10, by decide, fun p11 H11 s11 hp11 hv11 => ?_⟩
  refine RetN.cat (s11 _ _ hv10) hv11 (by rw [List.length_append, List.length_append]; omega) (s10.trans s11) fun p12 H12 s12 _ hp12 hv12 => ?_
  refine ⟨_, rfl, t, q, z, 3, rfl, h.same s12, by decide, fun p13 H13 s13 hp13 hv13 => ?_⟩
  refine RetN.cat (s13 _ _ hv12) hv13 (by rw [List.length_append, List.length_append, List.length_append]; omega) (s12.trans s13) fun p14 H14 s14 _ hp14 hv14 => ?_
  exact hQ p14 H14 s14 ((s12.trans s13).old hp14) hv14
end

end VD
namespace VD
open PySem PySem.Spec PyProof.Rows L2
section
variable {P : Program} {w : World} {K : PySem.W.Frag} {mg : Str → Option Value} {base : Heap}
abbrev N_is_extra : List Str := ["table", "card"]
theorem sc_is_extra : FnScope N_is_extra ["table", "card"] (defScope s_is_extra) := ⟨rfl, rfl, rfl, by decide +kernel, rfl, by decide +kernel, by decide +kernel⟩
theorem ok_is_extra (c : Ctx K mg) : OkF P w K mg base (L2.CX P w) 4 "is_extra" ["table", "card"] ((fun vs H Q _ => ∃ t q z n, vs = [.ref t, nv n] ∧ TbW H t q z ∧ Q (.bl (decide (z.deck.copies * Vbndaa.cardsPerCopy z.deck ≤ n))) H)) := by
  refine okF (f_is_extra c) (g_is_extra c) sc_is_extra (fun _ _ _ _ _ _ us hl => match us, hl with | [_, _], _ => rfl) (fun vs H Q E h => by obtain ⟨t, q, z, n, rfl, h, hQ⟩ := h; rfl) fun cdv A outer s H vs Q E hr h => ⟨_, (pss_one (ps_ret (pe_cmpR op_ge (pv 1) (pmeth0 (E := E0) (ok_Table_first_extra c) (pv 0) (hr.mono (by decide)) passL) (nomark _)))), ?_⟩
  obtain ⟨t, q, z, n, rfl, h, hQ⟩ := h
  obtain ⟨w0, tq, dx, h1, _⟩ := id h
  refine ⟨_, rfl, _, rfl, t, _, _, rfl, h1, rfl, t, q, z, rfl, h, _, _, rfl, rfl, ?_⟩
  have e : decide (((z.deck.copies * Vbndaa.cardsPerCopy z.deck : Nat) : Int) ≤ (n : Int)) = decide (z.deck.copies * Vbndaa.cardsPerCopy z.deck ≤ n) := by
    rw [Bool.eq_iff_iff, decide_eq_true_iff, decide_eq_true_iff]
    omega
  rw [← e] at hQ
  exact hQ
theorem fd_nat (n m : Nat) : ((n : Int).fdiv (m : Int)) = ((n / m : Nat) : Int) := by
  rw [Int.fdiv_eq_ediv_of_nonneg _ (Int.natCast_nonneg _), Int.natCast_ediv]
theorem fm_nat (n m : Nat) : ((n : Int).fmod (m : Int)) = ((n % m : Nat) : Int) := by
  rw [Int.fmod_eq_emod_of_nonneg _ (Int.natCast_nonneg _), Int.natCast_emod]
def partsL (z : Vbndaa.Table) (n : Nat) : List Nat := [n / Vbndaa.cardsPerCopy z.deck, n % Vbndaa.cardsPerCopy z.deck / z.deck.ranks.length, n % Vbndaa.cardsPerCopy z.deck % z.deck.ranks.length]
theorem cpc_small {z : Vbndaa.Table} (h : Wz z) : Vbndaa.cardsPerCopy z.deck ≤ 90 := by
  obtain ⟨w1, w2, _⟩ := h
  exact Nat.mul_le_mul w1 w2
abbrev N_parts_of : List Str := ["table", "card", "here"]
theorem sc_parts_of : FnScope N_parts_of ["table", "card"] (defScope s_parts_of) := ⟨rfl, rfl, rfl, by decide +kernel, rfl, by decide +kernel, by decide +kernel⟩
theorem ok_parts_of (c : Ctx K mg) : OkF P w K mg base (L2.CX P w) 3 "parts_of" ["table", "card"] ((fun vs H Q _ => ∃ t q z n, vs = [.ref t, nv n] ∧ TbW H t q z ∧ n < z.deck.copies * Vbndaa.cardsPerCopy z.deck ∧ ∀ p H', Same H H' → H p = none → H' p = some (.tup ((partsL z n).map nv)) → Q (.ref p) H')) := by
  refine okF (f_parts_of c) (g_parts_of c) sc_parts_of (fun _ _ _ _ _ _ us hl => match us, hl with | [_, _], _ => rfl) (fun vs H Q E h => by obtain ⟨t, q, z, n, rfl, h, hn, hQ⟩ := h; rfl) fun cdv A outer s H vs Q E hr h => ⟨_, (pss_cons (ps_set (i := 2) sc_parts_of.nd rfl (Or.inl rfl) (pe_op op_modN (pv 1) (pmeth0 (E := E0) (ok_Table_grid_size c) (pv 0) (hr.mono (by decide)) passL)))
      (pss_one (ps_ret (pe_tup (pa_cons (pe_op op_fdivN (pv 1) (pmeth0 (E := E0) (ok_Table_grid_size c) (pv 0) (hr.mono (by decide)) passL)) (pa_cons (pe_op op_fdivN (pv 2) (pmeth (E := E0) (ok_Table_many c) (pv 0) (hr.mono (by decide)) passL (pa_cons (pgi (i_RANK_tables c)) pa_nil))) (pa_cons (pe_op op_modN (pv 2) (pmeth (E := E0) (ok_Table_many c) (pv 0) (hr.mono (by decide)) passL (pa_cons (pgi (i_RANK_tables c)) pa_nil))) pa_nil))))))), ?_⟩
  obtain ⟨t, q, z, n, rfl, h, hn, hQ⟩ := h
  obtain ⟨w0, tq, dx, h1, _⟩ := id h
  have hc := cpc_small w0
  have c0 : 0 < Vbndaa.cardsPerCopy z.deck := by
    rcases Nat.eq_zero_or_pos (Vbndaa.cardsPerCopy z.deck) with e | e
    · rw [e] at hn; simp at hn
    · exact e
  have r0 : 0 < z.deck.ranks.length := by
    rcases Nat.eq_zero_or_pos z.deck.ranks.length with e | e
    · unfold Vbndaa.cardsPerCopy at c0; rw [e] at c0; simp at c0
    · exact e
  obtain ⟨_, w2, _⟩ := id w0
  refine ⟨_, rfl, _, rfl, t, _, _, rfl, h1, rfl, t, q, z, rfl, h, _, _, rfl, rfl, by omega, ?_⟩
  refine ⟨_, rfl, _, rfl, t, _, _, rfl, h1, rfl, t, q, z, rfl, h, _, _, rfl, rfl, ⟨by omega, by omega⟩, ?_⟩
  refine ⟨_, rfl, _, rfl, t, _, _, rfl, h1, rfl, t, q, z, 1, _, rfl, h, rfl, ?_⟩
  refine ⟨_, _, rfl, rfl, ⟨by omega, by omega⟩, ?_⟩
  refine ⟨_, rfl, _, rfl, t, _, _, rfl, h1, rfl, t, q, z, 1, _, rfl, h, rfl, _, _, rfl, rfl, by show ((z.deck.ranks.length : Nat) : Int) ≠ 0; omega, by show 3 ≤ sizeLine; decide, fun p hp => ?_⟩
  refine hQ p _ (Same.new hp) hp ?_
  rw [upd_same]
  simp only [fd_nat, fm_nat]
  rfl
theorem getD_at {α : Type} {l : List α} {i : Nat} {d : α} (h : i < l.length) : l[i]? = some (l.getD i d) := by
  rw [List.getD_eq_getElem?_getD, List.getElem?_eq_getElem h]
  rfl
/-- the words of a card -/
def cardW (z : Vbndaa.Table) (n : Nat) : List (List Nat) := match Vbndaa.cardAt z.deck n with
  | .suited k s r => [z.deck.suits.getD s [], z.deck.ranks.getD r []] ++ (if k = 0 then [] else [Vbndaa.decimalBytes (k + 1)])
  | .extra i => [z.deck.extras.getD i []]
theorem cardW_print (z : Vbndaa.Table) (n : Nat) : Vbndaa.joinWithSpaces (cardW z n) = Vbndaa.printCard z.deck n := by
  unfold cardW Vbndaa.printCard
  cases Vbndaa.cardAt z.deck n <;> rfl
abbrev N_card_words : List Str := ["table", "card", "copy", "suit", "rank", "found"]
theorem sc_card_words : FnScope N_card_words ["table", "card"] (defScope s_card_words) := ⟨rfl, rfl, rfl, by decide +kernel, rfl, by decide +kernel, by decide +kernel⟩
theorem ok_card_words (c : Ctx K mg) : OkF P w K mg base (L2.CX P w) 5 "card_words" ["table", "card"] ((fun vs H Q _ => ∃ t q z n, vs = [.ref t, nv n] ∧ TbW H t q z ∧ n < Vbndaa.deckSize z.deck ∧ RetLW Q H (cardW z n))) := by
  refine okF (f_card_words c) (g_card_words c) sc_card_words (fun _ _ _ _ _ _ us hl => match us, hl with | [_, _], _ => rfl) (fun vs H Q E h => by obtain ⟨t, q, z, n, rfl, h, hn, hQ⟩ := h; rfl) fun cdv A outer s H vs Q E hr h => ⟨_, (pss_cons (ps_if (pt_val (pcall (E := E0) (ok_is_extra c) (hr.mono (by decide)) passL (pa_cons (pv 0) (pa_cons (pv 1) pa_nil)))) (pss_one (ps_ret (pe_lst (pa_cons (pe_ix (ix_listK (K := K) rfl) (pe_ix (ix_listK (K := K) rfl) (pe_fldK (K := K) rfl (pv 0)) (pgi (i_EXTRA c)) (fun _ _ => rfl)) (pe_op op_sub (pv 1) (pmeth0 (E := E0) (ok_Table_first_extra c) (pv 0) (hr.mono (by decide)) passL)) (fun _ _ => rfl)) pa_nil)))) pss_nil)
      (pss_cons (ps_asg (pcall (E := E0) (ok_parts_of c) (hr.mono (by decide)) passL (pa_cons (pv 0) (pa_cons (pv 1) pa_nil))) (pg_tup rfl (pgs_cons (pg_name (i := 2) sc_card_words.nd rfl (Or.inl rfl)) (pgs_cons (pg_name (i := 3) sc_card_words.nd rfl (Or.inl rfl)) (pgs_cons (pg_name (i := 4) sc_card_words.nd rfl (Or.inl rfl)) pgs_nil)))))
      (pss_cons (ps_set (i := 5) sc_card_words.nd rfl (Or.inl rfl) (pe_lst (pa_cons (pe_ix (ix_listK (K := K) rfl) (pe_ix (ix_listK (K := K) rfl) (pe_fldK (K := K) rfl (pv 0)) (pgi (i_SUIT c)) (fun _ _ => rfl)) (pv 3) (fun _ _ => rfl)) (pa_cons (pe_ix (ix_listK (K := K) rfl) (pe_ix (ix_listK (K := K) rfl) (pe_fldK (K := K) rfl (pv 0)) (pgi (i_RANK_tables c)) (fun _ _ => rfl)) (pv 4) (fun _ _ => rfl)) pa_nil))))
      (pss_cons (ps_if (pt_cmpR op_gt (pv 2) pe_int (nomark _)) (pss_one (ps_expr (pe_bm PySem.F.plainAttrs_list PySem.F.slot_list_append PySem.F.type_list_append mt_append (pv 5) (pa_cons (pcall (E := E0) (ok_bytes_of c) (hr.mono (by decide)) passL (pa_cons (pe_callTy call_str_int (by rfl) (b_str c) (by decide +kernel) (pa_cons (pe_op op_add (pv 2) pe_int) pa_nil)) pa_nil)) pa_nil)))) pss_nil)
      (pss_one (ps_ret (pv 5))))))), ?_⟩
  obtain ⟨t, q, z, n, rfl, h, hn, hQ⟩ := h
  obtain ⟨w0, tq, dx, h1, _⟩ := id h
  refine ⟨_, rfl, _, rfl, t, q, z, n, rfl, h, _, rfl, ite2 (fun c1 => ?_) (fun c1 => ?_)⟩
  · have c1' := of_decide_eq_true c1
    have hi : n - z.deck.copies * Vbndaa.cardsPerCopy z.deck < z.deck.extras.length := by
      unfold Vbndaa.deckSize at hn
      omega
    have hx := getD_at (d := []) hi
    obtain ⟨dx2, as, a, h2, h3, h4, h5⟩ := h.kind (k := 2) rfl
    obtain ⟨xs, b, h6, h7, h8⟩ := h5.get hx
    have e : cardW z n = [z.deck.extras.getD (n - z.deck.copies * Vbndaa.cardsPerCopy z.deck) []] := by
      unfold cardW Vbndaa.cardAt
      rw [if_neg (by omega)]
    rw [e] at hQ
    refine ⟨_, rfl, t, _, _, _, _, rfl, h1, cl_Table c, na_Table_names c, rfl, q, _, (2 : Nat), _, rfl, rfl, SqL.of h3, atI_nat h4, ?_⟩
    refine ⟨_, rfl, _, rfl, t, _, _, rfl, h1, rfl, t, q, z, rfl, h, _, _, rfl, rfl, a, _, _, _, rfl, ?_, SqL.of h6, atI_nat h7, by show 1 ≤ sizeLine; decide, fun p hp => ?_⟩
    · show V.int ((n : Int) - ((z.deck.copies * Vbndaa.cardsPerCopy z.deck : Nat) : Int)) = V.int ((n - z.deck.copies * Vbndaa.cardsPerCopy z.deck : Nat) : Int)
      congr 1
      omega
    · exact hQ p _ (Same.new hp) ⟨[b], upd_same, .cons (Same.new hp _ _ h8) .nil⟩
  · have c1' : ¬ z.deck.copies * Vbndaa.cardsPerCopy z.deck ≤ n := fun e => c1 (decide_eq_true e)
    refine ⟨_, rfl, _, rfl, t, q, z, n, rfl, h, by omega, fun T H1 s1 hT hT2 => ?_⟩
    refine ⟨T, _, rfl, SqT.of hT2, rfl, _, _, rfl, _, _, rfl, _, _, rfl, rfl, ?_⟩
    have hlt : n < z.deck.copies * Vbndaa.cardsPerCopy z.deck := by omega
    obtain ⟨_, _, _, _, w5, w6, _⟩ := id w0
    have c0 : 0 < Vbndaa.cardsPerCopy z.deck := by
      rcases Nat.eq_zero_or_pos (Vbndaa.cardsPerCopy z.deck) with e | e
      · rw [e] at hlt; simp at hlt
      · exact e
    have r0 : 0 < z.deck.ranks.length := by
      rcases Nat.eq_zero_or_pos z.deck.ranks.length with e | e
      · unfold Vbndaa.cardsPerCopy at c0; rw [e] at c0; simp at c0
      · exact e
    have hk : n / Vbndaa.cardsPerCopy z.deck < z.deck.copies := (Nat.div_lt_iff_lt_mul c0).mpr hlt
    have hu : n % Vbndaa.cardsPerCopy z.deck / z.deck.ranks.length < z.deck.suits.length := (Nat.div_lt_iff_lt_mul r0).mpr (Nat.mod_lt _ c0)
    have hr2 : n % Vbndaa.cardsPerCopy z.deck % z.deck.ranks.length < z.deck.ranks.length := Nat.mod_lt _ r0
    have e : cardW z n = [z.deck.suits.getD (n % Vbndaa.cardsPerCopy z.deck / z.deck.ranks.length) [], z.deck.ranks.getD (n % Vbndaa.cardsPerCopy z.deck % z.deck.ranks.length) []] ++ (if n / Vbndaa.cardsPerCopy z.deck = 0 then [] else [Vbndaa.decimalBytes (n / Vbndaa.cardsPerCopy z.deck + 1)]) := by
      unfold cardW Vbndaa.cardAt
      rw [if_pos hlt]
    rw [e] at hQ
    generalize n % Vbndaa.cardsPerCopy z.deck / z.deck.ranks.length = u at *
    generalize n % Vbndaa.cardsPerCopy z.deck % z.deck.ranks.length = r at *
    generalize n / Vbndaa.cardsPerCopy z.deck = k at *
    have h' := h.same s1
    obtain ⟨dx2, as, a, h2, h3, h4, h5⟩ := h'.kind (k := 0) rfl
    obtain ⟨xs, b, h6, h7, h8⟩ := h5.get (getD_at (d := []) hu)
    obtain ⟨dx3, as3, a3, g2, g3, g4, g5⟩ := h'.kind (k := 1) rfl
    obtain ⟨xs3, b3, g6, g7, g8⟩ := g5.get (getD_at (d := []) hr2)
    refine ⟨_, rfl, t, _, _, _, _, rfl, h2, cl_Table c, na_Table_names c, rfl, q, _, (0 : Nat), _, rfl, rfl, SqL.of h3, atI_nat h4, _, rfl, a, _, (u : Int), _, rfl, rfl, SqL.of h6, atI_nat h7, ?_⟩
    refine ⟨_, rfl, t, _, _, _, _, rfl, h2, cl_Table c, na_Table_names c, rfl, q, _, (1 : Nat), _, rfl, rfl, SqL.of g3, atI_nat g4, _, rfl, a3, _, (r : Int), _, rfl, rfl, SqL.of g6, atI_nat g7, by show 2 ≤ sizeLine; decide, fun p hp => ?_⟩
    have s2 := Same.new (o := .lst [.ref b, .ref b3]) hp
    refine ⟨_, rfl, _, _, rfl, rfl, _, rfl, ite2 (fun c2 => ?_) (fun c2 => ?_)⟩
    · have c2' : (0 : Int) < (k : Int) := of_decide_eq_true c2
      rw [if_neg (by omega)] at hQ
      have dl := dec_len (n := k + 1) (by omega)
      refine ⟨_, rfl, .inl ⟨rfl, _, SqL.of upd_same⟩, _, rfl, _, _, rfl, rfl, _, rfl, log_small (n := k + 1) (by omega), _, Vbndaa.decimalBytes (k + 1), rfl, dec_cps (k + 1), by omega, fun p2 H2 s3 hp2 hv2 => ?_⟩
      have pb : p2 ≠ p := (ne_of_none upd_same hp2).symm
      refine ⟨p, _, _, rfl, rfl, s3 _ _ upd_same, by rw [sizeLine_eq]; show 2 < _; omega, ?_⟩
      have s13 : Same H H2 := (s1.trans s2).trans s3
      have hpH : H p = none := s1.old hp
      refine ⟨_, rfl, hQ p _ (s13.put hpH) ⟨[b, b3, p2], upd_same, .cons ?_ (.cons ?_ (.cons ?_ .nil))⟩⟩
      · exact (upd_ne (ne_of_none h8 hp)).trans (s3 _ _ (s2 _ _ h8))
      · exact (upd_ne (ne_of_none g8 hp)).trans (s3 _ _ (s2 _ _ g8))
      · exact (upd_ne pb).trans hv2
    · have c2' : ¬ (0 : Int) < (k : Int) := fun e => c2 (decide_eq_true e)
      rw [if_pos (by omega), List.append_nil] at hQ
      exact ⟨_, rfl, hQ p _ (s1.trans s2) ⟨[b, b3], upd_same, .cons (s2 _ _ h8) (.cons (s2 _ _ g8) .nil)⟩⟩
theorem cardW_ok {z : Vbndaa.Table} (h : Wz z) {n : Nat} (hn : n < Vbndaa.deckSize z.deck) : (∀ w ∈ cardW z n, w ≠ []) ∧ (Vbndaa.joinWithSpaces (cardW z n)).length ≤ 100 := by
  have nm : ∀ {k : Nat} {ws : List (List Nat)} {i : Nat}, (tn z)[k]? = some ws → i < ws.length → isName (ws.getD i []) = true := fun hk hi => wz_names h hk _ (List.mem_of_getElem? (getD_at hi))
  obtain ⟨_, _, _, _, w5, w6, _⟩ := id h
  unfold cardW Vbndaa.cardAt
  by_cases hlt : n < z.deck.copies * Vbndaa.cardsPerCopy z.deck
  · rw [if_pos hlt]
    have c0 : 0 < Vbndaa.cardsPerCopy z.deck := by
      rcases Nat.eq_zero_or_pos (Vbndaa.cardsPerCopy z.deck) with e | e
      · rw [e] at hlt; simp at hlt
      · exact e
    have r0 : 0 < z.deck.ranks.length := by
      rcases Nat.eq_zero_or_pos z.deck.ranks.length with e | e
      · unfold Vbndaa.cardsPerCopy at c0; rw [e] at c0; simp at c0
      · exact e
    have hk : n / Vbndaa.cardsPerCopy z.deck < z.deck.copies := (Nat.div_lt_iff_lt_mul c0).mpr hlt
    have n1 : isName (z.deck.suits.getD (n % Vbndaa.cardsPerCopy z.deck / z.deck.ranks.length) []) = true := nm (k := 0) rfl ((Nat.div_lt_iff_lt_mul r0).mpr (Nat.mod_lt n c0))
    have n2 : isName (z.deck.ranks.getD (n % Vbndaa.cardsPerCopy z.deck % z.deck.ranks.length) []) = true := nm (k := 1) rfl (Nat.mod_lt (n % Vbndaa.cardsPerCopy z.deck) r0)
    have l1 := isName_len n1
    have l2 := isName_len n2
    have p1 := isName_pos n1
    have p2 := isName_pos n2
    have dl := dec_len (n := n / Vbndaa.cardsPerCopy z.deck + 1) (by omega)
    simp only
    generalize z.deck.suits.getD (n % Vbndaa.cardsPerCopy z.deck / z.deck.ranks.length) [] = A at *
    generalize z.deck.ranks.getD (n % Vbndaa.cardsPerCopy z.deck % z.deck.ranks.length) [] = B at *
    generalize Vbndaa.decimalBytes (n / Vbndaa.cardsPerCopy z.deck + 1) = D at *
    by_cases e : n / Vbndaa.cardsPerCopy z.deck = 0
    · rw [if_pos e]
      refine ⟨fun w hw => ?_, ?_⟩
      · simp only [List.append_nil, List.mem_cons, List.not_mem_nil, or_false] at hw
        rcases hw with q | q <;> rw [q] <;> assumption
      · show (A ++ 32 :: B).length ≤ 100
        simp only [List.length_append, List.length_cons]
        omega
    · rw [if_neg e]
      refine ⟨fun w hw => ?_, ?_⟩
      · simp only [List.cons_append, List.nil_append, List.mem_cons, List.not_mem_nil, or_false] at hw
        rcases hw with q | q | q <;> rw [q]
        · exact p1
        · exact p2
        · exact dl.1
      · show (A ++ 32 :: (B ++ 32 :: D)).length ≤ 100
        simp only [List.length_append, List.length_cons]
        omega
  · rw [if_neg hlt]
    have hi : n - z.deck.copies * Vbndaa.cardsPerCopy z.deck < z.deck.extras.length := by
      unfold Vbndaa.deckSize at hn
      omega
    have n1 := nm (k := 2) rfl hi
    have l1 := isName_len n1
    refine ⟨fun w hw => ?_, ?_⟩
    · simp only [List.mem_cons, List.not_mem_nil, or_false] at hw
      rw [hw]
      exact isName_pos n1
    · show (z.deck.extras.getD (n - z.deck.copies * Vbndaa.cardsPerCopy z.deck) []).length ≤ 100
      omega
abbrev N_card_text : List Str := ["table", "card"]
theorem sc_card_text : FnScope N_card_text ["table", "card"] (defScope s_card_text) := ⟨rfl, rfl, rfl, by decide +kernel, rfl, by decide +kernel, by decide +kernel⟩
theorem ok_card_text (c : Ctx K mg) : OkF P w K mg base (L2.CX P w) 6 "card_text" ["table", "card"] ((fun vs H Q _ => ∃ t q z n, vs = [.ref t, nv n] ∧ TbW H t q z ∧ n < Vbndaa.deckSize z.deck ∧ RetN Q H (Vbndaa.printCard z.deck n))) := by
  refine okF (f_card_text c) (g_card_text c) sc_card_text (fun _ _ _ _ _ _ us hl => match us, hl with | [_, _], _ => rfl) (fun vs H Q E h => by obtain ⟨t, q, z, n, rfl, h, hn, hQ⟩ := h; rfl) fun cdv A outer s H vs Q E hr h => ⟨_, (pss_one (ps_ret (pcall (E := E0) (ok_line_of c) (hr.mono (by decide)) passL (pa_cons (pcall (E := E0) (ok_card_words c) (hr.mono (by decide)) passL (pa_cons (pv 0) (pa_cons (pv 1) pa_nil))) pa_nil)))), ?_⟩
  obtain ⟨t, q, z, n, rfl, h, hn, hQ⟩ := h
  obtain ⟨c1, c2⟩ := cardW_ok h.wz hn
  rw [← cardW_print] at hQ
  refine ⟨_, rfl, _, rfl, t, q, z, n, rfl, h, hn, fun p H1 s1 hl => ⟨p, _, rfl, hl, c1, by omega, fun p2 H2 s2 hp2 hv2 => hQ p2 H2 (s1.trans s2) (s1.old hp2) hv2⟩⟩
end

end VD
namespace VD
open PySem PySem.Spec PyProof.Rows L2
theorem find_cases (wd : List Nat) : ∀ ws : List (List Nat), (ws.contains wd = false ∧ (ws.findIdx? fun x => x == wd) = none) ∨
    ∃ i, ws.contains wd = true ∧ (ws.findIdx? fun x => x == wd) = some i ∧ ws[i]? = some wd ∧ ∀ m x, m < i → ws[m]? = some x → x ≠ wd
  | [] => .inl ⟨rfl, rfl⟩
  | x :: r => by
    by_cases e : x = wd
    · subst e
      refine .inr ⟨0, by simp, by simp [List.findIdx?_cons], rfl, fun m y h => absurd h (Nat.not_lt_zero _)⟩
    · rcases find_cases wd r with ⟨h1, h2⟩ | ⟨i, h1, h2, h3, h4⟩
      · refine .inl ⟨?_, ?_⟩
        · rw [List.contains_cons, h1, Bool.or_false]
          exact beq_eq_false_iff_ne.mpr (fun z => e z.symm)
        · rw [List.findIdx?_cons, if_neg (by simpa using e), h2]
          rfl
      · refine .inr ⟨i + 1, ?_, ?_, h3, fun m y hm hy => ?_⟩
        · rw [List.contains_cons, h1, Bool.or_true]
        · rw [List.findIdx?_cons, if_neg (by simpa using e), h2]
          rfl
        · cases m with
          | zero =>
            cases hy
            exact e
          | succ m => exact h4 m y (by omega) hy
/-- a number or a refusal -/
def OptQ (Q : VK) (E : XK) (H : Hp) (z : Int) (o : Option Nat) : Prop := match o with
  | some n => RetV Q H (nv n)
  | none => ∀ H', Same H H' → Rf E H' z
theorem OptQ.same {Q : VK} {E : XK} {H H' : Hp} {z : Int} {o : Option Nat} (s : Same H H') (h : OptQ Q E H z o) : OptQ Q E H' z o := by
  cases o with
  | some n => exact fun H2 s2 => h H2 (s.trans s2)
  | none => exact fun H2 s2 => h H2 (s.trans s2)
section
variable {P : Program} {w : World} {K : PySem.W.Frag} {mg : Str → Option Value} {base : Heap}
theorem index_of {H : Hp} {a b : Addr} {ws : List (List Nat)} {wd : List Nat} {i : Nat} {Q : VK} (hb : LW H b ws) (ha : LN H a wd) (h1 : ws[i]? = some wd) (h2 : ∀ m x, m < i → ws[m]? = some x → x ≠ wd) (h : Q (nv i) H) : rIndexD K (.ref b) [.ref a] H Q := by
  refine ⟨b, _, dw wd, ws.map dw, i, dw wd, rfl, rfl, dp_ws hb, dp_w ha, sh_dws _, sh_dw _, by rw [List.getElem?_map, h1]; rfl, by rw [eqv_dw]; simp, fun m z' hm hz' => ?_, h⟩
  obtain ⟨x, hx, rfl⟩ : ∃ x, ws[m]? = some x ∧ z' = dw x := by
    rw [List.getElem?_map] at hz'
    cases e : ws[m]? with
    | none => rw [e] at hz'; cases hz'
    | some x =>
      rw [e] at hz'
      exact ⟨x, rfl, (Option.some.inj hz').symm⟩
  rw [eqv_dw]
  exact beq_eq_false_iff_ne.mpr (h2 m x hm hx)
abbrev N_place_among : List Str := ["word", "names"]
theorem sc_place_among : FnScope N_place_among ["word", "names"] (defScope s_place_among) := ⟨rfl, rfl, rfl, by decide +kernel, rfl, by decide +kernel, by decide +kernel⟩
theorem ok_place_among (c : Ctx K mg) : OkF P w K mg base (L2.CX P w) 4 "place_among" ["word", "names"] ((fun vs H Q E => ∃ (a b : Addr) (wd : List Nat) (ws : List (List Nat)), vs = [.ref a, .ref b] ∧ LN H a wd ∧ LW H b ws ∧ OptQ Q E H (-3) (ws.findIdx? fun x => x == wd))) := by
  refine okF (f_place_among c) (g_place_among c) sc_place_among (fun _ _ _ _ _ _ us hl => match us, hl with | [_, _], _ => rfl) (fun vs H Q E h => by obtain ⟨a, b, wd, ws, rfl, ha, hb, hQ⟩ := h; rfl) fun cdv A outer s H vs Q E hr h => ⟨_, (pss_cons (ps_expr (pcall (ok_need c) (hr.mono (by decide)) (passes_call (takes_of rfl rfl rfl rfl) (fun _ _ _ _ h => h)) (pa_cons (pe_cmpR (inDK (K := K) rfl (hu65 hr)) (pv 0) (pv 1) (by rfl)) (pa_cons (pgi (i_BAD_TEXT c)) pa_nil))))
      (pss_one (ps_ret (pe_bm PySem.F.plainAttrs_list PySem.F.slot_list_index PySem.F.type_list_index (indexK (K := K) rfl (hu65 hr)) (pv 1) (pa_cons (pv 0) pa_nil))))), ?_⟩
  obtain ⟨a, b, wd, ws, rfl, ha, hb, hQ⟩ := h
  refine ⟨_, rfl, _, rfl, dw wd, ws.map dw, dp_w ha, dp_ws hb, sh_dw _, sh_dws _, ?_⟩
  rw [any_dw]
  rcases find_cases wd ws with ⟨h1, h2⟩ | ⟨i, h1, h2, h3, h4⟩
  · rw [h2] at hQ
    rw [h1]
    exact ⟨_, _, rfl, fun z => absurd z (by decide), fun _ => hQ H (Same.refl _)⟩
  · rw [h2] at hQ
    rw [h1]
    refine ⟨_, _, rfl, fun _ => ?_, fun z => absurd z (by decide)⟩
    obtain ⟨us, g1, g2⟩ := id hb
    exact ⟨_, rfl, .inl ⟨rfl, _, SqL.of g1⟩, _, rfl, index_of hb ha h3 h4 (hQ H (Same.refl _))⟩
def cpy (z : Vbndaa.Table) (ws : List (List Nat)) : Option Nat := match ws[2]? with
  | none => some 0
  | some w3 => if isNum w3 = true ∧ 2 ≤ Vbndaa.valueOf w3 ∧ Vbndaa.valueOf w3 ≤ z.deck.copies then some (Vbndaa.valueOf w3 - 1) else none
abbrev N_copy_of : List Str := ["table", "words"]
theorem sc_copy_of : FnScope N_copy_of ["table", "words"] (defScope s_copy_of) := ⟨rfl, rfl, rfl, by decide +kernel, rfl, by decide +kernel, by decide +kernel⟩
theorem ok_copy_of (c : Ctx K mg) : OkF P w K mg base (L2.CX P w) 4 "copy_of" ["table", "words"] ((fun vs H Q E => ∃ t q z a ws, vs = [.ref t, .ref a] ∧ TbW H t q z ∧ LW H a ws ∧ (ws.length = 2 ∨ ws.length = 3) ∧ (∀ w ∈ ws, w.length ≤ 100000) ∧ OptQ Q E H (-3) (cpy z ws))) := by
  refine okF (f_copy_of c) (g_copy_of c) sc_copy_of (fun _ _ _ _ _ _ us hl => match us, hl with | [_, _], _ => rfl) (fun vs H Q E h => by obtain ⟨t, q, z, a, ws, rfl, h, ha, hl, hz, hQ⟩ := h; rfl) fun cdv A outer s H vs Q E hr h => ⟨_, (pss_cons (ps_if (pt_cmpR op_eq (pe_callB (lenK (K := K) rfl) (by rfl) (b_len c) boot_len (pa_cons (pv 1) pa_nil)) pe_int (nomark _)) (pss_one (ps_ret pe_int)) pss_nil)
      (pss_cons (ps_expr (pcall (ok_need c) (hr.mono (by decide)) (passes_call (takes_of rfl rfl rfl rfl) (fun _ _ _ _ h => h)) (pa_cons (pe_and (pcall (E := E0) (ok_is_number c) (hr.mono (by decide)) passL (pa_cons (pe_ix (ix_listK (K := K) rfl) (pv 1) pe_int (fun _ _ => rfl)) pa_nil)) (pe_one (pe_chain op_le op_le pe_int (pcall (E := E0) (ok_value_of c) (hr.mono (by decide)) passL (pa_cons (pe_ix (ix_listK (K := K) rfl) (pv 1) pe_int (fun _ _ => rfl)) pa_nil)) (pe_fldK (K := K) rfl (pv 0))))) (pa_cons (pgi (i_BAD_TEXT c)) pa_nil))))
      (pss_one (ps_ret (pe_op op_sub (pcall (E := E0) (ok_value_of c) (hr.mono (by decide)) passL (pa_cons (pe_ix (ix_listK (K := K) rfl) (pv 1) pe_int (fun _ _ => rfl)) pa_nil)) pe_int))))), ?_⟩
  obtain ⟨t, q, z, a, ws, rfl, h, ha, hl, hz, hQ⟩ := h
  obtain ⟨us, g1, g2⟩ := id ha
  obtain ⟨w0, tq, dx, h1, _⟩ := id h
  have hlen : (us.map V.ref).length = ws.length := by rw [List.length_map, g2.length]
  refine ⟨_, rfl, a, _, rfl, .inl (SqL.of g1), rfl, _, rfl, ?_⟩
  rw [hlen]
  rcases hl with hl | hl
  · have hn : ws[2]? = none := List.getElem?_eq_none (by omega)
    unfold cpy at hQ
    rw [hn] at hQ
    rw [hl]
    exact iteT (hQ H (Same.refl _))
  · have hw : ws[2]? = some ws[2] := List.getElem?_eq_getElem (by omega)
    generalize ws[2] = w3 at hw
    unfold cpy at hQ
    rw [hw] at hQ
    simp only at hQ
    rw [hl]
    obtain ⟨xs, b, h6, h7, h8⟩ := ha.get hw
    refine iteF ?_
    refine ⟨_, rfl, a, _, (2 : Nat), _, rfl, rfl, SqL.of h6, atI_nat h7, b, w3, rfl, h8, hz w3 (List.mem_of_getElem? hw), fun H1 s1 => ⟨_, rfl, ?_⟩⟩
    have bad : ¬ (isNum w3 = true ∧ 2 ≤ Vbndaa.valueOf w3 ∧ Vbndaa.valueOf w3 ≤ z.deck.copies) → Rf E H1 (-3) := fun e => by
      rw [if_neg e] at hQ
      exact hQ H1 s1
    cases hn : isNum w3 with
    | false => exact ⟨_, _, rfl, fun z => absurd z (by decide), fun _ => bad (fun e => by rw [hn] at e; exact absurd e.1 (by decide))⟩
    | true =>
      have dg := isNum_digits hn
      rw [hn] at hQ bad
      refine ⟨_, rfl, a, _, (2 : Nat), _, rfl, rfl, SqL.of (s1 _ _ h6), atI_nat h7, b, w3, rfl, s1 _ _ h8, dg, _, _, rfl, rfl, _, rfl, ?_⟩
      by_cases c1 : 2 ≤ Vbndaa.valueOf w3
      · rw [decide_eq_true (show (2 : Int) ≤ (Vbndaa.valueOf w3 : Int) by omega)]
        refine ⟨_, rfl, t, _, _, _, _, rfl, s1 _ _ h1, cl_Table c, na_Table_copies c, rfl, _, _, rfl, rfl, ?_⟩
        by_cases c2 : Vbndaa.valueOf w3 ≤ z.deck.copies
        · rw [if_pos ⟨rfl, c1, c2⟩] at hQ
          refine ⟨_, _, rfl, fun _ => ?_, fun e => absurd e (by rw [decide_eq_true (show (Vbndaa.valueOf w3 : Int) ≤ (z.deck.copies : Int) by omega)]; decide)⟩
          refine ⟨_, rfl, a, _, (2 : Nat), _, rfl, rfl, SqL.of (s1 _ _ h6), atI_nat h7, b, w3, rfl, s1 _ _ h8, dg, _, _, rfl, rfl, ?_⟩
          have := hQ H1 s1
          rw [show nv (Vbndaa.valueOf w3 - 1) = V.int ((Vbndaa.valueOf w3 : Int) - 1) by unfold nv; congr 1; omega] at this
          exact this
        · exact ⟨_, _, rfl, fun e => absurd (of_decide_eq_true e) (by omega), fun _ => bad fun e => c2 e.2.2⟩
      · rw [decide_eq_false (show ¬ (2 : Int) ≤ (Vbndaa.valueOf w3 : Int) by omega)]
        exact ⟨_, _, rfl, fun z => absurd z (by decide), fun _ => bad fun e => c1 e.2.1⟩
def cardOf (z : Vbndaa.Table) (ws : List (List Nat)) : Option Nat := match ws with
  | [] => none
  | [w1] => (z.deck.extras.findIdx? fun x => x == w1).map fun i => z.deck.copies * Vbndaa.cardsPerCopy z.deck + i
  | w1 :: w2 :: r => if 1 < r.length then none else match z.deck.suits.findIdx? fun x => x == w1 with
    | none => none
    | some u => match z.deck.ranks.findIdx? fun x => x == w2 with
      | none => none
      | some k => (cpy z (w1 :: w2 :: r)).map fun j => j * Vbndaa.cardsPerCopy z.deck + u * z.deck.ranks.length + k
theorem cut_all (t : List Nat) : cut t 0 t.length = t := by
  show (t.drop 0).take (t.length - 0) = t
  simp
theorem findIdx_lt {ws : List (List Nat)} {wd : List Nat} {i : Nat} (h : (ws.findIdx? fun x => x == wd) = some i) : i < ws.length := by
  rcases find_cases wd ws with ⟨_, h2⟩ | ⟨j, _, h2, h3, _⟩
  · rw [h2] at h; cases h
  · rw [h2] at h
    cases h
    exact (List.getElem?_eq_some_iff.mp h3).1
abbrev N_card_of : List Str := ["table", "text", "words", "suit", "rank"]
theorem sc_card_of : FnScope N_card_of ["table", "text"] (defScope s_card_of) := ⟨rfl, rfl, rfl, by decide +kernel, rfl, by decide +kernel, by decide +kernel⟩
theorem ok_card_of (c : Ctx K mg) : OkF P w K mg base (L2.CX P w) 5 "card_of" ["table", "text"] ((fun vs H Q E => ∃ t q z a tx, vs = [.ref t, .ref a] ∧ TbW H t q z ∧ LN H a tx ∧ tx.length ≤ 100000 ∧ OptQ Q E H (-3) (cardOf z ((toks 0 tx).map (·.2))))) := by
  refine okF (f_card_of c) (g_card_of c) sc_card_of (fun _ _ _ _ _ _ us hl => match us, hl with | [_, _], _ => rfl) (fun vs H Q E h => by obtain ⟨t, q, z, a, tx, rfl, h, ha, hz, hQ⟩ := h; rfl) fun cdv A outer s H vs Q E hr h => ⟨_, (pss_cons (ps_set (i := 2) sc_card_of.nd rfl (Or.inl rfl) (pcall (E := E0) (ok_words_of c) (hr.mono (by decide)) passL (pa_cons (pv 1) (pa_cons pe_int (pa_cons (pe_callB (lenK (K := K) rfl) (by rfl) (b_len c) boot_len (pa_cons (pv 1) pa_nil)) pa_nil)))))
      (pss_cons (ps_expr (pcall (ok_need c) (hr.mono (by decide)) (passes_call (takes_of rfl rfl rfl rfl) (fun _ _ _ _ h => h)) (pa_cons (pe_chain op_le op_le pe_int (pe_callB (lenK (K := K) rfl) (by rfl) (b_len c) boot_len (pa_cons (pv 2) pa_nil)) pe_int) (pa_cons (pgi (i_BAD_TEXT c)) pa_nil))))
      (pss_cons (ps_if (pt_cmpR op_eq (pe_callB (lenK (K := K) rfl) (by rfl) (b_len c) boot_len (pa_cons (pv 2) pa_nil)) pe_int (nomark _)) (pss_one (ps_ret (pe_op op_add (pmeth0 (E := E0) (ok_Table_first_extra c) (pv 0) (hr.mono (by decide)) passL) (pcall (ok_place_among c) (hr.mono (by decide)) (passes_call (takes_of rfl rfl rfl rfl) (fun _ _ _ _ h => h)) (pa_cons (pe_ix (ix_listK (K := K) rfl) (pv 2) pe_int (fun _ _ => rfl)) (pa_cons (pe_ix (ix_listK (K := K) rfl) (pe_fldK (K := K) rfl (pv 0)) (pgi (i_EXTRA c)) (fun _ _ => rfl)) pa_nil)))))) pss_nil)
      (pss_cons (ps_set (i := 3) sc_card_of.nd rfl (Or.inl rfl) (pcall (ok_place_among c) (hr.mono (by decide)) (passes_call (takes_of rfl rfl rfl rfl) (fun _ _ _ _ h => h)) (pa_cons (pe_ix (ix_listK (K := K) rfl) (pv 2) pe_int (fun _ _ => rfl)) (pa_cons (pe_ix (ix_listK (K := K) rfl) (pe_fldK (K := K) rfl (pv 0)) (pgi (i_SUIT c)) (fun _ _ => rfl)) pa_nil))))
      (pss_cons (ps_set (i := 4) sc_card_of.nd rfl (Or.inl rfl) (pcall (ok_place_among c) (hr.mono (by decide)) (passes_call (takes_of rfl rfl rfl rfl) (fun _ _ _ _ h => h)) (pa_cons (pe_ix (ix_listK (K := K) rfl) (pv 2) pe_int (fun _ _ => rfl)) (pa_cons (pe_ix (ix_listK (K := K) rfl) (pe_fldK (K := K) rfl (pv 0)) (pgi (i_RANK_tables c)) (fun _ _ => rfl)) pa_nil))))
      (pss_one (ps_ret (pe_op op_add (pe_op op_add (pe_op op_mul (pcall (ok_copy_of c) (hr.mono (by decide)) (passes_call (takes_of rfl rfl rfl rfl) (fun _ _ _ _ h => h)) (pa_cons (pv 0) (pa_cons (pv 2) pa_nil))) (pmeth0 (E := E0) (ok_Table_grid_size c) (pv 0) (hr.mono (by decide)) passL)) (pe_op op_mul (pv 3) (pmeth (E := E0) (ok_Table_many c) (pv 0) (hr.mono (by decide)) passL (pa_cons (pgi (i_RANK_tables c)) pa_nil)))) (pv 4))))))))), ?_⟩
  obtain ⟨t, q, z, a, tx, rfl, h, ha, hz, hQ⟩ := h
  refine ⟨_, rfl, _, rfl, a, _, rfl, .inl (SqL.of ha), a, tx, 0, tx.length, by rw [List.length_map]; rfl, ha, Nat.zero_le _, Nat.le_refl _, hz, fun L H1 vs s1 hL hv hp => ?_⟩
  have hlw : LW H1 L ((toks 0 tx).map (·.2)) := by
    have := lw_of hv hp
    rw [cut_all] at this
    exact this
  have hzw : ∀ w ∈ (toks 0 tx).map (·.2), w.length ≤ 100000 := fun w hw => by
    obtain ⟨tk, h1, rfl⟩ := List.mem_map.mp hw
    have := toks_short tk h1
    omega
  rw [cut_all] at hp
  generalize (toks 0 tx).map (·.2) = ws at *
  have hlen := hp.length
  have h' := h.same s1
  obtain ⟨w0, tq, dx, h1, _⟩ := id h'
  refine ⟨_, rfl, L, _, rfl, .inl (SqL.of hv), _, _, rfl, rfl, _, rfl, ?_⟩
  have names : ∀ {k : Nat} {ws : List (List Nat)} {H2 : Hp}, (tn z)[k]? = some ws → Same H1 H2 → ∃ as a, SqL K H2 q as ∧ atI as (k : Int) = some (.ref a) ∧ LW H2 a ws ∧ H2 t = some (tableO dx q z.deck.copies) := fun hk s2 => by
    obtain ⟨dx2, as, a, h2, h3, h4, h5⟩ := (h'.same s2).kind hk
    exact ⟨_, a, SqL.of h3, atI_nat h4, h5, s2 _ _ h1⟩
  by_cases l1 : 1 ≤ vs.length
  · rw [decide_eq_true (show (1 : Int) ≤ (vs.length : Int) by omega)]
    refine ⟨_, _, rfl, rfl, ?_⟩
    by_cases l3 : vs.length ≤ 3
    · refine ⟨_, _, rfl, fun _ => ?_, fun e => absurd e (by rw [decide_eq_true (show (vs.length : Int) ≤ 3 by omega)]; decide)⟩
      refine ⟨_, rfl, L, _, rfl, .inl (SqL.of hv), rfl, _, rfl, ?_⟩
      match ws, hlen with
      | [], hlen => exact absurd (show vs.length = 0 from hlen) (by omega)
      | [w1], hlen =>
        obtain ⟨xs, b, h6, h7, h8⟩ := hlw.get (i := 0) rfl
        rw [hlen]
        obtain ⟨as, a2, n1, n2, n3, n4⟩ := names (k := 2) rfl (Same.refl _)
        refine iteT ⟨_, rfl, t, _, _, rfl, h1, rfl, t, q, z, rfl, h', _, rfl, L, _, (0 : Nat), _, rfl, rfl, SqL.of h6, atI_nat h7, _, rfl, t, _, _, _, _, rfl, h1, cl_Table c, na_Table_names c, rfl, q, _, (2 : Nat), _, rfl, rfl, n1, n2, b, a2, w1, _, rfl, h8, n3, ?_⟩
        unfold cardOf at hQ
        simp only at hQ
        cases hx : (z.deck.extras.findIdx? fun x => x == w1) with
        | none =>
          rw [hx] at hQ
          exact fun H2 s2 => hQ H2 (s1.trans s2)
        | some i =>
          rw [hx] at hQ
          exact fun H2 s2 => ⟨_, _, rfl, rfl, hQ H2 (s1.trans s2)⟩
      | w1 :: w2 :: r, hlen =>
        obtain ⟨xs, b, h6, h7, h8⟩ := hlw.get (i := 0) rfl
        obtain ⟨xs', b', h6', h7', h8'⟩ := hlw.get (i := 1) rfl
        have hl2 : (w1 :: w2 :: r).length = 2 ∨ (w1 :: w2 :: r).length = 3 := by
          simp only [List.length_cons] at hlen ⊢
          omega
        unfold cardOf at hQ
        simp only at hQ
        rw [if_neg (by simp only [List.length_cons] at hlen; omega)] at hQ
        obtain ⟨as, a2, n1, n2, n3, n4⟩ := names (k := 0) rfl (Same.refl _)
        refine ite2 (fun e => absurd (of_decide_eq_true e) (fun e => ?_)) (fun _ => ?_)
        · have := nv_inj (b := 1) e
          simp only [List.length_cons] at hlen
          omega
        refine ⟨_, rfl, L, _, (0 : Nat), _, rfl, rfl, SqL.of h6, atI_nat h7, _, rfl, t, _, _, _, _, rfl, h1, cl_Table c, na_Table_names c, rfl, q, _, (0 : Nat), _, rfl, rfl, n1, n2, b, a2, w1, _, rfl, h8, n3, ?_⟩
        cases hx : (z.deck.suits.findIdx? fun x => x == w1) with
        | none =>
          rw [hx] at hQ
          exact fun H2 s2 => hQ H2 (s1.trans s2)
        | some u =>
          rw [hx] at hQ
          simp only at hQ
          intro H2 s2
          obtain ⟨as', a2', n1', n2', n3', n4'⟩ := names (k := 1) rfl s2
          refine ⟨_, rfl, L, _, (1 : Nat), _, rfl, rfl, SqL.of (s2 _ _ h6'), atI_nat h7', _, rfl, t, _, _, _, _, rfl, n4', cl_Table c, na_Table_names c, rfl, q, _, (1 : Nat), _, rfl, rfl, n1', n2', b', a2', w2, _, rfl, s2 _ _ h8', n3', ?_⟩
          cases hy : (z.deck.ranks.findIdx? fun x => x == w2) with
          | none =>
            rw [hy] at hQ
            exact fun H3 s3 => hQ H3 ((s1.trans s2).trans s3)
          | some k =>
            rw [hy] at hQ
            simp only at hQ
            intro H3 s3
            have s23 := s2.trans s3
            have hu := findIdx_lt hx
            obtain ⟨w1', w2', _, _, _, w6, _⟩ := id w0
            refine ⟨_, rfl, _, rfl, t, q, z, L, _, rfl, h'.same s23, hlw.same s23, hl2, hzw, ?_⟩
            cases hc : cpy z (w1 :: w2 :: r) with
            | none =>
              rw [hc] at hQ
              exact fun H4 s4 => hQ H4 ((s1.trans s23).trans s4)
            | some j =>
              rw [hc] at hQ
              intro H4 s4
              have h4 := h'.same (s23.trans s4)
              have h41 := (s23.trans s4) _ _ h1
              have hj : j ≤ 4 := by
                unfold cpy at hc
                split at hc
                · cases hc; omega
                · split at hc
                  · cases hc; omega
                  · cases hc
              refine ⟨_, rfl, t, _, _, rfl, h41, rfl, t, q, z, rfl, h4, _, _, rfl, rfl, .inl ⟨by omega, by omega⟩, ?_⟩
              refine ⟨_, rfl, _, rfl, t, _, _, rfl, h41, rfl, t, q, z, 1, _, rfl, h4, rfl, _, _, rfl, rfl, .inl ⟨by omega, by omega⟩, _, _, rfl, rfl, ?_⟩
              exact ⟨_, rfl, _, _, rfl, rfl, hQ H4 ((s1.trans s23).trans s4)⟩
    · refine ⟨_, _, rfl, fun e => absurd (of_decide_eq_true e) (by omega), fun _ => ?_⟩
      match ws, hlen with
      | [], hlen => exact absurd (show vs.length = 0 from hlen) (by omega)
      | [w1], hlen => exact absurd (show vs.length = 1 from hlen) (by omega)
      | w1 :: w2 :: r, hlen =>
        unfold cardOf at hQ
        simp only at hQ
        rw [if_pos (by simp only [List.length_cons] at hlen; omega)] at hQ
        exact hQ H1 s1
  · rw [decide_eq_false (show ¬ (1 : Int) ≤ (vs.length : Int) by omega)]
    have e : ws = [] := List.eq_nil_of_length_eq_zero (by omega)
    subst e
    exact ⟨_, _, rfl, fun e => absurd e (by decide), fun _ => hQ H1 s1⟩
end

end VD
namespace VD
open PySem PySem.Spec PyProof.Rows L2
def opt {α : Type} : Except Vbndaa.ParseError α → Option α
  | .ok a => some a
  | .error _ => none
theorem name_cond (w : List Nat) : (Vbndaa.isIdentifier w = true ∧ Vbndaa.reservedWords.contains w = false) ↔ isName w = true := by
  unfold isName
  rw [Bool.and_eq_true, Bool.not_eq_true']
theorem parse_name_ok {t : Vbndaa.Token} {tr : List Vbndaa.Token} {e : Nat} : Vbndaa.parseName ⟨t :: tr, e⟩ = if isName t.bytes = true then .ok (t.bytes, ⟨tr, e⟩) else .error ⟨1, t.offset⟩ := by
  unfold Vbndaa.parseName Vbndaa.parseToken
  by_cases h : isName t.bytes = true
  · simp only
    rw [if_pos ((name_cond _).mpr h), if_pos h]
  · simp only
    rw [if_neg (fun q => h ((name_cond _).mp q)), if_neg h]
theorem find_name {l : List (List Nat)} (h : ∀ w ∈ l, isName w = true) {w : List Nat} (hw : ¬ isName w = true) : (l.findIdx? fun x => x == w) = none := by
  rcases find_cases w l with ⟨_, h2⟩ | ⟨i, _, _, h3, _⟩
  · exact h2
  · exact absurd (h w (List.mem_of_getElem? h3)) hw
theorem known_name {l : List (List Nat)} (h : ∀ w ∈ l, isName w = true) {ts : List Vbndaa.Token} {e : Nat} : opt (Vbndaa.parseKnownName l ⟨ts, e⟩) = match ts with
    | [] => none
    | t :: tr => (l.findIdx? fun x => x == t.bytes).map fun i => (i, ⟨tr, e⟩) := by
  cases ts with
  | nil => rfl
  | cons t tr =>
    unfold Vbndaa.parseKnownName
    rw [parse_name_ok]
    by_cases hn : isName t.bytes = true
    · rw [if_pos hn]
      simp only
      cases l.findIdx? fun x => x == t.bytes <;> rfl
    · rw [if_neg hn]
      simp only
      rw [find_name h hn]
      rfl
theorem nat_range {lo hi : Nat} {ts : List Vbndaa.Token} {e : Nat} : opt (Vbndaa.parseNatInRange lo hi ⟨ts, e⟩) = match ts with
    | [] => none
    | t :: tr => if isNum t.bytes = true ∧ lo ≤ Vbndaa.valueOf t.bytes ∧ Vbndaa.valueOf t.bytes ≤ hi then some (Vbndaa.valueOf t.bytes, ⟨tr, e⟩) else none := by
  cases ts with
  | nil => rfl
  | cons t tr =>
    unfold Vbndaa.parseNatInRange Vbndaa.parseToken
    simp only
    have hn : isNum t.bytes = (Vbndaa.natOfToken 3 t.bytes).isSome := rfl
    rw [hn]
    cases h : Vbndaa.natOfToken 3 t.bytes with
    | none =>
      rw [if_neg (fun q => by cases q.1)]
      rfl
    | some v =>
      have hv : v = Vbndaa.valueOf t.bytes := by
        unfold Vbndaa.natOfToken at h
        split at h
        · cases h
        · cases h
          rfl
      subst hv
      simp only [Option.isSome_some, true_and]
      by_cases c : lo ≤ Vbndaa.valueOf t.bytes ∧ Vbndaa.valueOf t.bytes ≤ hi
      · rw [if_pos c, if_pos c]
        rfl
      · rw [if_neg c, if_neg c]
        rfl
theorem opt_ok {α : Type} {x : Except Vbndaa.ParseError α} {a : α} (h : opt x = some a) : x = .ok a := by
  cases x with
  | error e => cases h
  | ok b => cases h; rfl
theorem opt_err {α : Type} {x : Except Vbndaa.ParseError α} (h : opt x = none) : ∃ e, x = .error e := by
  cases x with
  | error e => exact ⟨e, rfl⟩
  | ok b => cases h
theorem parse_card_tok {z : Vbndaa.Table} (hz : Wz z) (ts : List Vbndaa.Token) (e : Nat) : opt (Vbndaa.parseCardTokens z.deck ⟨ts, e⟩) = cardOf z (ts.map (·.bytes)) := by
  obtain ⟨_, _, _, _, _, _, h7, h8, h9, nd, _⟩ := id hz
  have hs : ∀ w ∈ z.deck.suits, isName w = true := fun w hw => h7 w (List.mem_append_left _ hw)
  have hx : ∀ w ∈ z.deck.extras, isName w = true := fun w hw => h7 w (List.mem_append_right _ hw)
  unfold Vbndaa.parseCardTokens
  cases ts with
  | nil => rfl
  | cons t1 tr =>
    rw [parse_name_ok]
    by_cases hn : isName t1.bytes = true
    · rw [if_pos hn]
      simp only
      cases he : (z.deck.extras.findIdx? fun x => x == t1.bytes) with
      | some i =>
        simp only
        cases tr with
        | nil =>
          unfold cardOf
          simp only [List.map_cons, List.map_nil]
          rw [he]
          rfl
        | cons t2 tr =>
          have hno : (z.deck.suits.findIdx? fun x => x == t1.bytes) = none := by
            rcases find_cases t1.bytes z.deck.suits with ⟨_, h2⟩ | ⟨j, _, _, h3, _⟩
            · exact h2
            · rcases find_cases t1.bytes z.deck.extras with ⟨_, h2⟩ | ⟨j', _, _, h3', _⟩
              · rw [h2] at he; cases he
              · exact absurd rfl ((List.nodup_append.mp nd).2.2 _ (List.mem_of_getElem? h3) _ (List.mem_of_getElem? h3'))
          unfold cardOf
          simp only [List.map_cons]
          rw [hno]
          simp only [ite_self]
          rfl
      | none =>
        simp only
        cases hu : (z.deck.suits.findIdx? fun x => x == t1.bytes) with
        | none =>
          unfold cardOf
          cases tr with
          | nil =>
            simp only [List.map_cons, List.map_nil]
            rw [he]
            rfl
          | cons t2 tr =>
            simp only [List.map_cons]
            rw [hu]
            simp only [ite_self]
            rfl
        | some u =>
          simp only
          have hk := known_name h8 (ts := tr) (e := e)
          cases tr with
          | nil =>
            obtain ⟨er, hk⟩ := opt_err hk
            rw [hk]
            unfold cardOf
            simp only [List.map_cons, List.map_nil]
            rw [he]
            rfl
          | cons t2 tr =>
            simp only at hk
            unfold cardOf
            simp only [List.map_cons]
            rw [hu]
            simp only
            cases hr : (z.deck.ranks.findIdx? fun x => x == t2.bytes) with
            | none =>
              rw [hr] at hk
              obtain ⟨er, hk⟩ := opt_err hk
              rw [hk]
              simp only [ite_self]
              rfl
            | some k =>
              rw [hr] at hk
              rw [opt_ok hk]
              simp only [bind, Except.bind]
              cases tr with
              | nil =>
                simp [opt, cpy, Vbndaa.cardNumber]
              | cons t3 tr =>
                simp only [List.isEmpty_cons, Bool.false_eq_true, if_false, List.map_cons, List.length_cons]
                have hm := nat_range (lo := 2) (hi := z.deck.copies) (ts := t3 :: tr) (e := e)
                simp only at hm
                have hc : cpy z (t1.bytes :: t2.bytes :: t3.bytes :: tr.map (·.bytes)) = if isNum t3.bytes = true ∧ 2 ≤ Vbndaa.valueOf t3.bytes ∧ Vbndaa.valueOf t3.bytes ≤ z.deck.copies then some (Vbndaa.valueOf t3.bytes - 1) else none := rfl
                rw [hc]
                by_cases c : isNum t3.bytes = true ∧ 2 ≤ Vbndaa.valueOf t3.bytes ∧ Vbndaa.valueOf t3.bytes ≤ z.deck.copies
                · rw [if_pos c] at hm ⊢
                  rw [opt_ok hm]
                  cases tr with
                  | nil => rfl
                  | cons t4 tr =>
                    rw [if_pos (by simp)]
                    rfl
                · rw [if_neg c] at hm ⊢
                  obtain ⟨er, hm⟩ := opt_err hm
                  rw [hm]
                  simp only [Option.map_none, ite_self]
                  rfl
    · rw [if_neg hn]
      have e1 := find_name hx hn
      have e2 := find_name hs hn
      unfold cardOf
      cases tr with
      | nil =>
        simp only [List.map_cons, List.map_nil]
        rw [e1]
        rfl
      | cons t2 tr =>
        simp only [List.map_cons]
        rw [e2]
        simp only [ite_self]
        rfl
theorem parse_card_eq {z : Vbndaa.Table} (hz : Wz z) (t : List Nat) : opt (Vbndaa.parseCard z.deck t) = cardOf z ((toks 0 t).map (·.2)) := by
  have e : (toks 0 t).map (·.2) = (Vbndaa.tokenizeWith Vbndaa.noSeparators 0 t).map (·.bytes) := by
    unfold toks
    rw [List.map_map]
    rfl
  rw [e]
  exact parse_card_tok hz _ _

end VD
namespace VD
open PySem PySem.Spec PyProof.Rows L2
def deedOf : Vbndaa.Action → Nat
  | .submit _ _ => 0
  | .grant _ _ _ => 1
  | .claim _ _ => 2
def rcvI : Option Nat → Int
  | none => -1
  | some x => (x : Int)
def numsOf : Vbndaa.Action → List Int
  | .submit _ o => o.map fun (n : Nat) => (n : Int)
  | .grant _ b to => [(b : Int), rcvI to]
  | .claim _ b => [(b : Int)]
abbrev actO (dx b : Addr) (d p : Nat) : HO := .ins c_Action dx [("deed", nv d), ("player", nv p), ("numbers", .ref b)]
/-- an action's object -/
def ActAt (H : Hp) (a : Addr) (x : Vbndaa.Action) : Prop := ∃ dx b, H a = some (actO dx b (deedOf x) (Vbndaa.actingPlayer x)) ∧ LI H b (numsOf x)
theorem ActAt.same {H H' : Hp} (e : Same H H') {a : Addr} {x : Vbndaa.Action} (h : ActAt H a x) : ActAt H' a x := by
  obtain ⟨dx, b, h1, h2⟩ := h
  exact ⟨dx, b, e _ _ h1, e _ _ h2⟩
/-- an action's object, all of it new behind H0 -/
def ActN (H0 H : Hp) (a : Addr) (x : Vbndaa.Action) : Prop := ∃ dx b, H a = some (actO dx b (deedOf x) (Vbndaa.actingPlayer x)) ∧ LI H b (numsOf x) ∧ H0 a = none ∧ H0 b = none
theorem ActN.at {H0 H : Hp} {a : Addr} {x : Vbndaa.Action} (h : ActN H0 H a x) : ActAt H a x := by
  obtain ⟨dx, b, h1, h2, _⟩ := h
  exact ⟨dx, b, h1, h2⟩
theorem ActN.old {H0 H1 H : Hp} {a : Addr} {x : Vbndaa.Action} (s : Same H0 H1) (h : ActN H1 H a x) : ActN H0 H a x := by
  obtain ⟨dx, b, h1, h2, h3, h4⟩ := h
  exact ⟨dx, b, h1, h2, s.old h3, s.old h4⟩
/-- an action or a refusal -/
def OptA (Q : VK) (E : XK) (H : Hp) (o : Option Vbndaa.Action) : Prop := match o with
  | some x => ∀ a H', Same H H' → ActN H H' a x → Q (.ref a) H'
  | none => ∀ H', Same H H' → Rf E H' (-3)
theorem OptA.same {Q : VK} {E : XK} {H H' : Hp} {o : Option Vbndaa.Action} (s : Same H H') (h : OptA Q E H o) : OptA Q E H' o := by
  cases o with
  | some n => exact fun a H2 s2 ha => h a H2 (s.trans s2) (ha.old s)
  | none => exact fun H2 s2 => h H2 (s.trans s2)
def rcvW (z : Vbndaa.Table) (w : List Nat) : Option (Option Nat) := if w = Vbndaa.toBytes "all" then some none else (z.players.findIdx? fun x => x == w).map some
def posW (w : List Nat) : Option Nat := if isNum w = true ∧ Vbndaa.valueOf w < 52 then some (Vbndaa.valueOf w) else none
section
variable {P : Program} {w : World} {K : PySem.W.Frag} {mg : Str → Option Value} {base : Heap}
abbrev N_Action_init : List Str := ["self", "deed", "player", "numbers"]
theorem sc_Action_init : FnScope N_Action_init ["self", "deed", "player", "numbers"] (defScope s_Action_init) := ⟨rfl, rfl, rfl, by decide +kernel, rfl, by decide +kernel, by decide +kernel⟩
theorem ok_Action_init (c : Ctx K mg) : OkC P w K mg base (L2.CX P w) 1 "Action" c_Action ["self", "deed", "player", "numbers"] ((fun vs H Q _ => ∃ a dx d p b x, vs = [.ref a, nv d, nv p, .ref b] ∧ H a = some (.ins c_Action dx []) ∧ LI H b (numsOf x) ∧ deedOf x = d ∧ Vbndaa.actingPlayer x = p ∧ ∀ H', But [a] H H' → H' a = some (actO dx b d p) → Q .non H')) := by
  refine okC (f_Action_init c) (mk_Action c) (g_Action c) sc_Action_init (fun _ _ _ _ _ _ us hl => match us, hl with | [_, _, _, _], _ => rfl) (fun vs H Q E h => by obtain ⟨a, dx, d, p, b, x, rfl, ha, hb, e1, e2, k⟩ := h; rfl) fun cdv A outer s H vs Q E hr h => ⟨_, (pss_cons (ps_fld (pv 0) (pv 1) rfl)
      (pss_cons (ps_fld (pv 0) (pv 2) rfl)
      (pss_one (ps_fld (pv 0) (pv 3) rfl)))), ?_⟩
  obtain ⟨a, dx, d, p, b, x, rfl, ha, hb, e1, e2, k⟩ := h
  subst e1 e2
  refine ⟨_, rfl, _, rfl, a, _, _, _, rfl, ha, cl_Action c, na_Action_deed c, by show 0 < 1000; decide, _, rfl, _, rfl, a, _, _, _, rfl, upd_same, cl_Action c, na_Action_player c, by show 1 < 1000; decide, _, rfl, _, rfl, a, _, _, _, rfl, upd_same, cl_Action c, na_Action_numbers c, by show 2 < 1000; decide, ?_⟩
  exact k _ (((((Same.refl H).but [a]).put (by simp)).put (by simp)).put (by simp)) upd_same
abbrev N_player_of : List Str := ["table", "word"]
theorem sc_player_of : FnScope N_player_of ["table", "word"] (defScope s_player_of) := ⟨rfl, rfl, rfl, by decide +kernel, rfl, by decide +kernel, by decide +kernel⟩
theorem ok_player_of (c : Ctx K mg) : OkF P w K mg base (L2.CX P w) 4 "player_of" ["table", "word"] ((fun vs H Q E => ∃ t q z b wd, vs = [.ref t, .ref b] ∧ TbW H t q z ∧ LN H b wd ∧ OptQ Q E H (-3) (z.players.findIdx? fun x => x == wd))) := by
  refine okF (f_player_of c) (g_player_of c) sc_player_of (fun _ _ _ _ _ _ us hl => match us, hl with | [_, _], _ => rfl) (fun vs H Q E h => by obtain ⟨t, q, z, b, wd, rfl, h, hb, hQ⟩ := h; rfl) fun cdv A outer s H vs Q E hr h => ⟨_, (pss_cons (ps_expr (pcall (ok_need c) (hr.mono (by decide)) (passes_call (takes_of rfl rfl rfl rfl) (fun _ _ _ _ h => h)) (pa_cons (pe_cmpR (inDK (K := K) rfl (hu65 hr)) (pv 1) (pe_ix (ix_listK (K := K) rfl) (pe_fldK (K := K) rfl (pv 0)) (pgi (i_PLAYER c)) (fun _ _ => rfl)) (by rfl)) (pa_cons (pgi (i_BAD_TEXT c)) pa_nil))))
      (pss_one (ps_ret (pe_bm PySem.F.plainAttrs_list PySem.F.slot_list_index PySem.F.type_list_index (indexK (K := K) rfl (hu65 hr)) (pe_ix (ix_listK (K := K) rfl) (pe_fldK (K := K) rfl (pv 0)) (pgi (i_PLAYER c)) (fun _ _ => rfl)) (pa_cons (pv 1) pa_nil))))), ?_⟩
  obtain ⟨t, q, z, b, wd, rfl, h, hb, hQ⟩ := h
  obtain ⟨dx2, as, a, h2, h3, h4, h5⟩ := h.kind (k := 3) rfl
  refine ⟨_, rfl, _, rfl, t, _, _, _, _, rfl, h2, cl_Table c, na_Table_names c, rfl, q, _, (3 : Nat), _, rfl, rfl, SqL.of h3, atI_nat h4, dw wd, _, dp_w hb, dp_ws h5, sh_dw _, sh_dws _, ?_⟩
  rw [any_dw]
  rcases find_cases wd z.players with ⟨e1, e2⟩ | ⟨i, e1, e2, e3, e4⟩
  · rw [e2] at hQ
    rw [e1]
    exact ⟨_, _, rfl, fun z => absurd z (by decide), fun _ => hQ H (Same.refl _)⟩
  · rw [e2] at hQ
    rw [e1]
    refine ⟨_, _, rfl, fun _ => ?_, fun z => absurd z (by decide)⟩
    obtain ⟨us, g1, g2⟩ := id h5
    exact ⟨_, rfl, t, _, _, _, _, rfl, h2, cl_Table c, na_Table_names c, rfl, q, _, (3 : Nat), _, rfl, rfl, SqL.of h3, atI_nat h4, .inl ⟨rfl, _, SqL.of g1⟩, _, rfl, index_of h5 hb e3 e4 (hQ H (Same.refl _))⟩
abbrev N_receiver_of : List Str := ["table", "word"]
theorem sc_receiver_of : FnScope N_receiver_of ["table", "word"] (defScope s_receiver_of) := ⟨rfl, rfl, rfl, by decide +kernel, rfl, by decide +kernel, by decide +kernel⟩
theorem ok_receiver_of (c : Ctx K mg) : OkF P w K mg base (L2.CX P w) 5 "receiver_of" ["table", "word"] ((fun vs H Q E => ∃ t q z b wd, vs = [.ref t, .ref b] ∧ TbW H t q z ∧ LN H b wd ∧ (match rcvW z wd with | some r => RetV Q H (.int (rcvI r)) | none => ∀ H', Same H H' → Rf E H' (-3)))) := by
  refine okF (f_receiver_of c) (g_receiver_of c) sc_receiver_of (fun _ _ _ _ _ _ us hl => match us, hl with | [_, _], _ => rfl) (fun vs H Q E h => by obtain ⟨t, q, z, b, wd, rfl, h, hb, hQ⟩ := h; rfl) fun cdv A outer s H vs Q E hr h => ⟨_, (pss_cons (ps_if (pt_cmpR (eqDK (K := K) rfl hr.units) (pv 1) (pcall (E := E0) (ok_bytes_of c) (hr.mono (by decide)) passL (pa_cons pe_str pa_nil)) (nomark _)) (pss_one (ps_ret (pgi (i_EVERYBODY c)))) pss_nil)
      (pss_one (ps_ret (pcall (ok_player_of c) (hr.mono (by decide)) (passes_call (takes_of rfl rfl rfl rfl) (fun _ _ _ _ h => h)) (pa_cons (pv 0) (pa_cons (pv 1) pa_nil)))))), ?_⟩
  obtain ⟨t, q, z, b, wd, rfl, h, hb, hQ⟩ := h
  refine ⟨_, rfl, _, Vbndaa.toBytes "all", rfl, ofString_cps _, by decide +kernel, fun p H1 s1 hp hv => ?_⟩
  refine ⟨dw wd, _, dp_w (s1 _ _ hb), dp_w hv, sh_dw _, sh_dw _, _, rfl, ?_⟩
  rw [eqv_dw]
  unfold rcvW at hQ
  by_cases e : wd = Vbndaa.toBytes "all"
  · rw [if_pos e] at hQ
    rw [beq_iff_eq.mpr e]
    exact iteT (hQ H1 s1)
  · rw [if_neg e] at hQ
    rw [beq_eq_false_iff_ne.mpr e]
    refine iteF ⟨_, rfl, _, rfl, t, q, z, b, wd, rfl, h.same s1, s1 _ _ hb, ?_⟩
    cases hx : z.players.findIdx? fun x => x == wd with
    | none =>
      rw [hx] at hQ
      exact fun H2 s2 => hQ H2 (s1.trans s2)
    | some i =>
      rw [hx] at hQ
      exact fun H2 s2 => hQ H2 (s1.trans s2)
abbrev N_position_of : List Str := ["word"]
theorem sc_position_of : FnScope N_position_of ["word"] (defScope s_position_of) := ⟨rfl, rfl, rfl, by decide +kernel, rfl, by decide +kernel, by decide +kernel⟩
theorem ok_position_of (c : Ctx K mg) : OkF P w K mg base (L2.CX P w) 4 "position_of" ["word"] ((fun vs H Q E => ∃ b wd, vs = [.ref b] ∧ LN H b wd ∧ wd.length ≤ 100000 ∧ OptQ Q E H (-3) (posW wd))) := by
  refine okF (f_position_of c) (g_position_of c) sc_position_of (fun _ _ _ _ _ _ us hl => match us, hl with | [_], _ => rfl) (fun vs H Q E h => by obtain ⟨b, wd, rfl, hb, hz, hQ⟩ := h; rfl) fun cdv A outer s H vs Q E hr h => ⟨_, (pss_cons (ps_expr (pcall (ok_need c) (hr.mono (by decide)) (passes_call (takes_of rfl rfl rfl rfl) (fun _ _ _ _ h => h)) (pa_cons (pe_and (pcall (E := E0) (ok_is_number c) (hr.mono (by decide)) passL (pa_cons (pv 0) pa_nil)) (pe_one (pe_cmpR op_lt (pcall (E := E0) (ok_value_of c) (hr.mono (by decide)) passL (pa_cons (pv 0) pa_nil)) (pgi (i_MOST_CARDS c)) (nomark _)))) (pa_cons (pgi (i_BAD_TEXT c)) pa_nil))))
      (pss_one (ps_ret (pcall (E := E0) (ok_value_of c) (hr.mono (by decide)) passL (pa_cons (pv 0) pa_nil))))), ?_⟩
  obtain ⟨b, wd, rfl, hb, hz, hQ⟩ := h
  unfold posW at hQ
  refine ⟨_, rfl, b, wd, rfl, hb, hz, fun H1 s1 => ⟨_, rfl, ?_⟩⟩
  cases hn : isNum wd with
  | false =>
    rw [if_neg (fun e => by rw [hn] at e; cases e.1)] at hQ
    exact ⟨_, _, rfl, fun z => absurd z (by decide), fun _ => hQ H1 s1⟩
  | true =>
    have dg := isNum_digits hn
    refine ⟨_, rfl, b, wd, rfl, s1 _ _ hb, dg, _, _, rfl, rfl, _, _, rfl, fun e => ?_, fun e => ?_⟩
    · have := of_decide_eq_true e
      rw [if_pos ⟨hn, by omega⟩] at hQ
      exact ⟨_, rfl, b, wd, rfl, s1 _ _ hb, dg, hQ H1 s1⟩
    · have := of_decide_eq_false e
      rw [if_neg (fun e => by omega)] at hQ
      exact hQ H1 s1
theorem ActAt.made {H : Hp} {x dx : Addr} {nx : H x = none} {nd : H dx = none} {H' : Hp} (b : But [x] (upd (upd H dx (.own x)) x (.ins c_Action dx [])) H') : Same H H' := fun a o e =>
  b a o ((upd_ne (ne_of_none e nx)).trans ((upd_ne (ne_of_none e nd)).trans e)) (by simp; exact ne_of_none e nx)
/-- what the making of an action asks -/
theorem mk_act {H : Hp} {b : Addr} {x : Vbndaa.Action} {d p : Nat} {Q : VK} (hb : LI H b (numsOf x)) (e1 : deedOf x = d) (e2 : Vbndaa.actingPlayer x = p) (k : ∀ a dx H', Same H H' → H a = none → H' a = some (actO dx b (deedOf x) (Vbndaa.actingPlayer x)) → Q (.ref a) H') :
    ∀ a dx, H a = none → H dx = none → dx ≠ a → (∃ a' dx' d' p' b' x', [V.ref a, nv d, nv p, .ref b] = [.ref a', nv d', nv p', .ref b'] ∧ (upd (upd H dx (.own a)) a (.ins c_Action dx [])) a' = some (.ins c_Action dx' []) ∧ LI (upd (upd H dx (.own a)) a (.ins c_Action dx [])) b' (numsOf x') ∧ deedOf x' = d' ∧ Vbndaa.actingPlayer x' = p' ∧
      ∀ H', But [a'] (upd (upd H dx (.own a)) a (.ins c_Action dx [])) H' → H' a' = some (actO dx' b' d' p') → (V.non = .non ∧ Q (.ref a) H')) := fun a dx ha hdx _ =>
  ⟨a, dx, d, p, b, x, rfl, upd_same, (upd_ne (ne_of_none hb ha)).trans ((upd_ne (ne_of_none hb hdx)).trans hb), e1, e2, fun H' b1 hA => ⟨rfl, k a dx H' (ActAt.made (nx := ha) (nd := hdx) b1) ha (by rw [hA, e1, e2])⟩⟩
def permitsOf (z : Vbndaa.Table) (p : Nat) (ws : List (List Nat)) : Option Vbndaa.Action := match ws with
  | [_, _, w2, w3, w4] => if w3 = Vbndaa.toBytes "to" then (posW w2).bind fun b => (rcvW z w4).map fun r => .grant p b r else none
  | _ => none
abbrev N_read_permits : List Str := ["table", "player", "words"]
theorem sc_read_permits : FnScope N_read_permits ["table", "player", "words"] (defScope s_read_permits) := ⟨rfl, rfl, rfl, by decide +kernel, rfl, by decide +kernel, by decide +kernel⟩
theorem ok_read_permits (c : Ctx K mg) : OkF P w K mg base (L2.CX P w) 6 "read_permits" ["table", "player", "words"] ((fun vs H Q E => ∃ t q z p a ws, vs = [.ref t, nv p, .ref a] ∧ TbW H t q z ∧ LW H a ws ∧ (∀ w ∈ ws, w.length ≤ 100000) ∧ OptA Q E H (permitsOf z p ws))) := by
  refine okF (f_read_permits c) (g_read_permits c) sc_read_permits (fun _ _ _ _ _ _ us hl => match us, hl with | [_, _, _], _ => rfl) (fun vs H Q E h => by obtain ⟨t, q, z, p, a, ws, rfl, h, ha, hz, hQ⟩ := h; rfl) fun cdv A outer s H vs Q E hr h => ⟨_, (pss_cons (ps_expr (pcall (ok_need c) (hr.mono (by decide)) (passes_call (takes_of rfl rfl rfl rfl) (fun _ _ _ _ h => h)) (pa_cons (pe_and (pe_cmpR op_eq (pe_callB (lenK (K := K) rfl) (by rfl) (b_len c) boot_len (pa_cons (pv 2) pa_nil)) pe_int (nomark _)) (pe_one (pe_cmpR (eqDK (K := K) rfl hr.units) (pe_ix (ix_listK (K := K) rfl) (pv 2) pe_int (fun _ _ => rfl)) (pcall (E := E0) (ok_bytes_of c) (hr.mono (by decide)) passL (pa_cons pe_str pa_nil)) (nomark _)))) (pa_cons (pgi (i_BAD_TEXT c)) pa_nil))))
      (pss_one (ps_ret (pmake (E := E0) (ok_Action_init c) (hr.mono (by decide)) passL (pa_cons (pgi (i_PERMITS c)) (pa_cons (pv 1) (pa_cons (pe_lst (pa_cons (pcall (ok_position_of c) (hr.mono (by decide)) (passes_call (takes_of rfl rfl rfl rfl) (fun _ _ _ _ h => h)) (pa_cons (pe_ix (ix_listK (K := K) rfl) (pv 2) pe_int (fun _ _ => rfl)) pa_nil)) (pa_cons (pcall (ok_receiver_of c) (hr.mono (by decide)) (passes_call (takes_of rfl rfl rfl rfl) (fun _ _ _ _ h => h)) (pa_cons (pv 0) (pa_cons (pe_ix (ix_listK (K := K) rfl) (pv 2) pe_int (fun _ _ => rfl)) pa_nil))) pa_nil))) pa_nil))))))), ?_⟩
  obtain ⟨t, q, z, p, a, ws, rfl, h, ha, hz, hQ⟩ := h
  obtain ⟨us, g1, g2⟩ := id ha
  have hlen : (us.map V.ref).length = ws.length := by rw [List.length_map, g2.length]
  refine ⟨_, rfl, a, _, rfl, .inl (SqL.of g1), rfl, _, rfl, ?_⟩
  rw [hlen]
  by_cases l5 : ws.length = 5
  · obtain ⟨w0, w1, w2, w3, w4, rfl⟩ : ∃ a b c d e, ws = [a, b, c, d, e] := by
      match ws, l5 with
      | [a, b, c, d, e], _ => exact ⟨a, b, c, d, e, rfl⟩
    rw [l5]
    unfold permitsOf at hQ
    simp only at hQ
    obtain ⟨xs3, b3, h63, h73, h83⟩ := ha.get (i := 3) rfl
    obtain ⟨xs2, b2, h62, h72, h82⟩ := ha.get (i := 2) rfl
    obtain ⟨xs4, b4, h64, h74, h84⟩ := ha.get (i := 4) rfl
    refine iteT ⟨_, rfl, a, _, (3 : Nat), _, rfl, rfl, SqL.of h63, atI_nat h73, _, Vbndaa.toBytes "to", rfl, ofString_cps _, by decide +kernel, fun pt H1 s1 hpt hvt => ?_⟩
    refine ⟨dw w3, _, dp_w (s1 _ _ h83), dp_w hvt, sh_dw _, sh_dw _, _, _, rfl, fun e => ?_, fun e => ?_⟩
    · rw [eqv_dw, beq_iff_eq] at e
      rw [if_pos e] at hQ
      refine ⟨_, rfl, _, rfl, a, _, (2 : Nat), _, rfl, rfl, SqL.of (s1 _ _ h62), atI_nat h72, b2, w2, rfl, s1 _ _ h82, hz _ (by simp), ?_⟩
      cases hp2 : posW w2 with
      | none =>
        rw [hp2] at hQ
        exact fun H2 s2 => hQ H2 (s1.trans s2)
      | some bp =>
        rw [hp2] at hQ
        intro H2 s2
        have s12 := s1.trans s2
        refine ⟨_, rfl, _, rfl, a, _, (4 : Nat), _, rfl, rfl, SqL.of (s12 _ _ h64), atI_nat h74, t, q, z, b4, w4, rfl, h.same s12, s12 _ _ h84, ?_⟩
        cases hr4 : rcvW z w4 with
        | none =>
          rw [hr4] at hQ
          exact fun H3 s3 => hQ H3 (s12.trans s3)
        | some r =>
          rw [hr4] at hQ
          intro H3 s3
          refine ⟨by show 2 ≤ sizeLine; decide, fun pl hpl => ?_⟩
          have s4 := (s12.trans s3).trans (Same.new (o := .lst [nv bp, .int (rcvI r)]) hpl)
          exact mk_act (x := .grant p bp r) (d := 1) (p := p) (b := pl) upd_same rfl rfl fun a' dx' H' s' ha' hA => hQ a' H' (s4.trans s') ⟨dx', pl, hA, s' _ _ upd_same, s4.old ha', (s12.trans s3).old hpl⟩
    · rw [eqv_dw, beq_eq_false_iff_ne] at e
      rw [if_neg e] at hQ
      exact hQ H1 s1
  · have en : permitsOf z p ws = none := by
      unfold permitsOf
      split
      · exact absurd rfl l5
      · rfl
    rw [en] at hQ
    refine ite2 (fun e => absurd (nv_inj (b := 5) (of_decide_eq_true e)) l5) (fun _ => ?_)
    exact ⟨_, _, rfl, fun e => absurd e (by decide), fun _ => hQ H (Same.refl _)⟩
def posAll (ws : List (List Nat)) : Option (List Nat) := ws.mapM posW
def actOf (z : Vbndaa.Table) (ws : List (List Nat)) : Option Vbndaa.Action := match ws with
  | w0 :: w1 :: r => (z.players.findIdx? fun x => x == w0).bind fun p =>
      if w1 = Vbndaa.toBytes "lays" then (posAll r).map fun o => .submit p o
      else if w1 = Vbndaa.toBytes "permits" then permitsOf z p (w0 :: w1 :: r)
      else if w1 = Vbndaa.toBytes "takes" then (match r with
        | [w2] => (posW w2).map fun b => .claim p b
        | _ => none) else none
  | _ => none
/-- a position's word, read -/
def RPos (_ : Hp) (v : V) (w : List Nat) : Prop := ∃ n, posW w = some n ∧ v = nv n
theorem rpos_mono : ∀ (H H' : Hp) (v : V) (e : List Nat), Same H H' → RPos H v e → RPos H' v e := fun _ _ _ _ _ h => h
theorem rpos_all {H : Hp} : ∀ {vs : List V} {ws : List (List Nat)}, Paired (RPos H) vs ws → ∃ o, posAll ws = some o ∧ vs = o.map nv
  | _, _, .nil => ⟨[], rfl, rfl⟩
  | _, _, .cons ⟨n, h1, h2⟩ t => by
    obtain ⟨o, h3, h4⟩ := rpos_all t
    refine ⟨n :: o, ?_, by rw [h2, h4]; rfl⟩
    unfold posAll at h3 ⊢
    rw [List.mapM_cons, h1, h3]
    rfl
theorem cutV_drop {xs : List V} {i : Nat} (h : i ≤ xs.length) : cutV xs (some (i : Int)) none = xs.drop i := by
  unfold cutV
  rw [HT.sIx_nat, Nat.min_eq_left h]
  show (xs.drop i).take (xs.length - i) = _
  rw [List.take_of_length_le (by rw [List.length_drop]; exact Nat.le_refl _)]
theorem posAll_none {ws : List (List Nat)} {w : List Nat} (h : w ∈ ws) (hw : posW w = none) : posAll ws = none := by
  unfold posAll
  induction ws with
  | nil => cases h
  | cons x r ih =>
    rw [List.mapM_cons]
    rcases List.mem_cons.mp h with e | e
    · subst e
      rw [hw]
      rfl
    · cases hx : posW x with
      | none => rfl
      | some v =>
        rw [ih e]
        rfl
theorem posAll_all {ws : List (List Nat)} : (∀ w ∈ ws, ∃ v, posW w = some v) → posAll ws = some (ws.map fun w => (posW w).getD 0) := by
  unfold posAll
  induction ws with
  | nil => exact fun _ => rfl
  | cons x r ih =>
    intro h
    obtain ⟨v, hv⟩ := h x (by simp)
    rw [List.mapM_cons, hv, ih fun w hw => h w (by simp [hw])]
    simp [hv]
abbrev N_read_action : List Str := ["table", "words", "player", "word"]
theorem sc_read_action : FnScope N_read_action ["table", "words"] (defScope s_read_action) := ⟨rfl, rfl, rfl, by decide +kernel, rfl, by decide +kernel, by decide +kernel⟩
theorem ok_read_action (c : Ctx K mg) : OkF P w K mg base (L2.CX P w) 7 "read_action" ["table", "words"] ((fun vs H Q E => ∃ t q z a ws, vs = [.ref t, .ref a] ∧ TbW H t q z ∧ LW H a ws ∧ (∀ w ∈ ws, w.length ≤ 100000) ∧ ws.length ≤ 100000 ∧ OptA Q E H (actOf z ws))) := by
  refine okF (f_read_action c) (g_read_action c) sc_read_action (fun _ _ _ _ _ _ us hl => match us, hl with | [_, _], _ => rfl) (fun vs H Q E h => by obtain ⟨t, q, z, a, ws, rfl, h, ha, hz, hlw, hQ⟩ := h; rfl) fun cdv A outer s H vs Q E hr h => ⟨_, (pss_cons (ps_expr (pcall (ok_need c) (hr.mono (by decide)) (passes_call (takes_of rfl rfl rfl rfl) (fun _ _ _ _ h => h)) (pa_cons (pe_cmpR op_gt (pe_callB (lenK (K := K) rfl) (by rfl) (b_len c) boot_len (pa_cons (pv 1) pa_nil)) pe_int (nomark _)) (pa_cons (pgi (i_BAD_TEXT c)) pa_nil))))
      (pss_cons (ps_set (i := 2) sc_read_action.nd rfl (Or.inl rfl) (pcall (ok_player_of c) (hr.mono (by decide)) (passes_call (takes_of rfl rfl rfl rfl) (fun _ _ _ _ h => h)) (pa_cons (pv 0) (pa_cons (pe_ix (ix_listK (K := K) rfl) (pv 1) pe_int (fun _ _ => rfl)) pa_nil))))
      (pss_cons (ps_if (pt_cmpR (eqDK (K := K) rfl hr.units) (pe_ix (ix_listK (K := K) rfl) (pv 1) pe_int (fun _ _ => rfl)) (pcall (E := E0) (ok_bytes_of c) (hr.mono (by decide)) passL (pa_cons pe_str pa_nil)) (nomark _)) (pss_one (ps_ret (pmake (E := E0) (ok_Action_init c) (hr.mono (by decide)) passL (pa_cons (pgi (i_LAYS c)) (pa_cons (pv 2) (pa_cons (pe_lcX (E := E) (g := gName 3) (own := [("word", 3)]) rfl rfl (takes_of rfl rfl rfl rfl) rfl sc_read_action.nd (pi_list (pe_slice (sl_listK (K := K) rfl) (pv 1) (po_some pe_int) po_none)) (blkOk_by (own := [("word", 3)]) (N := N_read_action) (sc := defScope s_read_action) (by decide +kernel)) (fun _ _ _ _ _ _ => (pg_name (i := 3) sc_read_action.nd rfl (Or.inl rfl) (hf := Or.inr (by rfl)))) (fun _ _ _ _ _ _ => pts_nil) (fun _ _ _ _ _ _ hx => (pcall (E := E) (ok_position_of c) (hr.mono (by decide)) hx (pa_cons (pv 3) pa_nil)))) pa_nil)))))) pss_nil)
      (pss_cons (ps_if (pt_cmpR (eqDK (K := K) rfl hr.units) (pe_ix (ix_listK (K := K) rfl) (pv 1) pe_int (fun _ _ => rfl)) (pcall (E := E0) (ok_bytes_of c) (hr.mono (by decide)) passL (pa_cons pe_str pa_nil)) (nomark _)) (pss_one (ps_ret (pcall (ok_read_permits c) (hr.mono (by decide)) (passes_call (takes_of rfl rfl rfl rfl) (fun _ _ _ _ h => h)) (pa_cons (pv 0) (pa_cons (pv 2) (pa_cons (pv 1) pa_nil)))))) pss_nil)
      (pss_cons (ps_expr (pcall (ok_need c) (hr.mono (by decide)) (passes_call (takes_of rfl rfl rfl rfl) (fun _ _ _ _ h => h)) (pa_cons (pe_and (pe_cmpR op_eq (pe_callB (lenK (K := K) rfl) (by rfl) (b_len c) boot_len (pa_cons (pv 1) pa_nil)) pe_int (nomark _)) (pe_one (pe_cmpR (eqDK (K := K) rfl hr.units) (pe_ix (ix_listK (K := K) rfl) (pv 1) pe_int (fun _ _ => rfl)) (pcall (E := E0) (ok_bytes_of c) (hr.mono (by decide)) passL (pa_cons pe_str pa_nil)) (nomark _)))) (pa_cons (pgi (i_BAD_TEXT c)) pa_nil))))
      (pss_one (ps_ret (pmake (E := E0) (ok_Action_init c) (hr.mono (by decide)) passL (pa_cons (pgi (i_TAKES c)) (pa_cons (pv 2) (pa_cons (pe_lst (pa_cons (pcall (ok_position_of c) (hr.mono (by decide)) (passes_call (takes_of rfl rfl rfl rfl) (fun _ _ _ _ h => h)) (pa_cons (pe_ix (ix_listK (K := K) rfl) (pv 1) pe_int (fun _ _ => rfl)) pa_nil)) pa_nil)) pa_nil))))))))))), ?_⟩
  obtain ⟨t, q, z, a, ws, rfl, h, ha, hz, hlw, hQ⟩ := h
  obtain ⟨us, g1, g2⟩ := id ha
  have hlen : (us.map V.ref).length = ws.length := by rw [List.length_map, g2.length]
  refine ⟨_, rfl, a, _, rfl, .inl (SqL.of g1), _, _, rfl, rfl, _, _, rfl, fun l2 => ?_, fun l2 => ?_⟩
  · have l2 := of_decide_eq_true l2
    rw [hlen] at l2
    obtain ⟨w0, w1, r, rfl⟩ : ∃ a b c, ws = a :: b :: c := by
      match ws, l2 with
      | a :: b :: c, _ => exact ⟨a, b, c, rfl⟩
      | [a], l2 => simp at l2
      | [], l2 => simp at l2
    obtain ⟨xs0, b0, h60, h70, h80⟩ := ha.get (i := 0) rfl
    obtain ⟨xs1, b1, h61, h71, h81⟩ := ha.get (i := 1) rfl
    unfold actOf at hQ
    simp only at hQ
    refine ⟨_, rfl, _, rfl, a, _, (0 : Nat), _, rfl, rfl, SqL.of h60, atI_nat h70, t, q, z, b0, w0, rfl, h, h80, ?_⟩
    cases hp : z.players.findIdx? fun x => x == w0 with
    | none =>
      rw [hp] at hQ
      exact fun H2 s2 => hQ H2 s2
    | some p =>
      rw [hp] at hQ
      simp only [Option.bind_some] at hQ
      intro H1 s1
      refine ⟨_, rfl, a, _, (1 : Nat), _, rfl, rfl, SqL.of (s1 _ _ h61), atI_nat h71, _, Vbndaa.toBytes "lays", rfl, ofString_cps _, by decide +kernel, fun pt H2 s2 hpt hvt => ?_⟩
      have s12 := s1.trans s2
      refine ⟨dw w1, _, dp_w (s12 _ _ h81), dp_w hvt, sh_dw _, sh_dw _, _, rfl, ite2 (fun e => ?_) (fun e => ?_)⟩
      · rw [eqv_dw, beq_iff_eq] at e
        rw [if_pos e] at hQ
        obtain ⟨u0, u1, ur, rfl⟩ : ∃ a b c, us = a :: b :: c := by
          match us, g2 with
          | a :: b :: c, _ => exact ⟨a, b, c, rfl⟩
        have g3 : Paired (fun b w => LN H b w) ur r := pr_drop 2 g2
        refine ⟨_, rfl, _, rfl, _, rfl, a, _, rfl, SqL.of (s12 _ _ g1), fun S hS => ?_⟩
        rw [show cutV ((u0 :: u1 :: ur).map V.ref) (some 2) none = ur.map V.ref from cutV_drop (i := 2) (by simp)]
        have s3 := s12.trans (Same.new (o := .lst (ur.map V.ref)) hS)
        refine ⟨S, rfl, ⟨_, SqL.of upd_same⟩, fun D hD => ?_⟩
        refine lcR walk_list RPos (fun i => r.take i) rpos_mono hD rfl (fun H' s' => SqL.of (s' _ _ upd_same)) (fun i x H4 H5 hi q y => ?_) (fun H' vs s' hd q => ?_)
        · obtain ⟨rfl, hx⟩ := y
          obtain ⟨b, hb, rfl⟩ := map_at hx
          obtain ⟨wd, hw, hwd⟩ := pr_get g3 hb
          have s4 := s3.trans q.2.1
          refine ⟨rfl, _, rfl, b, wd, rfl, s4 _ _ hwd, hz wd (by simp [List.mem_of_getElem? hw]), ?_⟩
          cases hv : posW wd with
          | none =>
            rw [posAll_none (List.mem_of_getElem? hw) hv] at hQ
            exact fun H6 s6 => hQ H6 (s4.trans s6)
          | some v =>
            refine fun H6 s6 => q.yes rpos_mono s6 (take_succ hw) ⟨v, hv, rfl⟩ (by rw [List.length_take]; simp only [List.length_cons] at hlw; omega)
        · have q2 := Paired.mono (fun _ _ h => h) q
          rw [List.length_map, List.take_of_length_le (by rw [g3.length]; exact Nat.le_refl _)] at q2
          obtain ⟨o, ho, rfl⟩ := rpos_all q2
          rw [ho] at hQ
          have s5 := s3.trans s'
          have hdI : LI H' D (o.map fun (n : Nat) => (n : Int)) := by
            show H' D = _
            rw [hd, nv_map]
          exact mk_act (x := .submit p o) (d := 0) (p := p) (b := D) hdI rfl rfl fun a' dx' H6 s6 ha' hA => hQ a' H6 (s5.trans s6) ⟨dx', D, hA, s6 _ _ hdI, s5.old ha', s3.old hD⟩
      · rw [eqv_dw, beq_iff_eq] at e
        rw [if_neg e] at hQ
        refine ⟨_, rfl, a, _, (1 : Nat), _, rfl, rfl, SqL.of (s12 _ _ h61), atI_nat h71, _, Vbndaa.toBytes "permits", rfl, ofString_cps _, by decide +kernel, fun pt3 H3 s3 hpt3 hvt3 => ?_⟩
        have s13 := s12.trans s3
        refine ⟨dw w1, _, dp_w (s13 _ _ h81), dp_w hvt3, sh_dw _, sh_dw _, _, rfl, ite2 (fun e => ?_) (fun e => ?_)⟩
        · rw [eqv_dw, beq_iff_eq] at e
          rw [if_pos e] at hQ
          exact ⟨_, rfl, _, rfl, _, rfl, t, q, z, p, a, _, rfl, h.same s13, ha.same s13, hz, hQ.same s13⟩
        · rw [eqv_dw, beq_iff_eq] at e
          rw [if_neg e] at hQ
          have hall : (us.map V.ref).length = (w0 :: w1 :: r).length := hlen
          have no : (¬ (r.length = 1 ∧ w1 = Vbndaa.toBytes "takes")) → ∀ H4, Same H3 H4 → Rf E H4 (-3) := fun hn H4 s4 => by
            have en : (if w1 = Vbndaa.toBytes "takes" then (match r with
                | [w2] => (posW w2).map fun b => Vbndaa.Action.claim p b
                | _ => none) else none) = none := by
              by_cases e5 : w1 = Vbndaa.toBytes "takes"
              · rw [if_pos e5]
                match r, hn with
                | [], _ => rfl
                | [x], hn => exact absurd ⟨rfl, e5⟩ hn
                | x :: y :: l, _ => rfl
              · rw [if_neg e5]
            rw [en] at hQ
            exact hQ H4 (s13.trans s4)
          refine ⟨_, rfl, a, _, rfl, .inl (SqL.of (s13 _ _ g1)), rfl, _, rfl, ite2 (fun e3 => ?_) (fun e3 => ?_)⟩
          · have e3 := nv_inj (b := 3) (of_decide_eq_true e3)
            rw [hall, List.length_cons, List.length_cons] at e3
            have hr1 : r.length = 1 := by omega
            refine ⟨_, rfl, a, _, (1 : Nat), _, rfl, rfl, SqL.of (s13 _ _ h61), atI_nat h71, _, Vbndaa.toBytes "takes", rfl, ofString_cps _, by decide +kernel, fun pt4 H4 s4 hpt4 hvt4 => ?_⟩
            have s14 := s13.trans s4
            refine ⟨dw w1, _, dp_w (s14 _ _ h81), dp_w hvt4, sh_dw _, sh_dw _, _, _, rfl, fun e5 => ?_, fun e5 => ?_⟩
            · rw [eqv_dw, beq_iff_eq] at e5
              obtain ⟨w2, rfl⟩ : ∃ w2, r = [w2] := by
                match r, hr1 with
                | [x], _ => exact ⟨x, rfl⟩
              rw [if_pos e5] at hQ
              simp only at hQ
              obtain ⟨xs2, b2, h62, h72, h82⟩ := ha.get (i := 2) rfl
              refine ⟨_, rfl, _, rfl, a, _, (2 : Nat), _, rfl, rfl, SqL.of (s14 _ _ h62), atI_nat h72, b2, w2, rfl, s14 _ _ h82, hz _ (by simp), ?_⟩
              cases hv : posW w2 with
              | none =>
                rw [hv] at hQ
                exact fun H6 s6 => hQ H6 (s14.trans s6)
              | some v =>
                rw [hv] at hQ
                intro H6 s6
                refine ⟨by show 1 ≤ sizeLine; decide, fun pl hpl => ?_⟩
                have s7 := (s14.trans s6).trans (Same.new (o := .lst [nv v]) hpl)
                exact mk_act (x := .claim p v) (d := 2) (p := p) (b := pl) upd_same rfl rfl fun a' dx' H' s' ha' hA => hQ a' H' (s7.trans s') ⟨dx', pl, hA, s' _ _ upd_same, s7.old ha', (s14.trans s6).old hpl⟩
            · rw [eqv_dw, beq_eq_false_iff_ne] at e5
              exact no (fun h => e5 h.2) H4 s4
          · have e3 : ¬ (us.map V.ref).length = 3 := fun e => e3 (decide_eq_true (show nv _ = nv 3 by rw [e]))
            rw [hall, List.length_cons, List.length_cons] at e3
            exact ⟨_, _, rfl, fun e => absurd e (by decide), fun _ => no (fun h => e3 (by omega)) H3 (Same.refl _)⟩
  · have l2 := of_decide_eq_false l2
    rw [hlen] at l2
    have en : actOf z ws = none := by
      match ws, l2 with
      | [], _ => rfl
      | [w], _ => rfl
      | a :: b :: c, l2 => exact absurd l2 (by simp; omega)
    rw [en] at hQ
    exact hQ H (Same.refl _)
end

end VD
namespace VD
open PySem PySem.Spec PyProof.Rows L2
section
variable {P : Program} {w : World} {K : PySem.W.Frag} {mg : Str → Option Value} {base : Heap}
def wordsOf (t : List Nat) : List (List Nat) := (toks 0 t).map (·.2)
abbrev N_action_of : List Str := ["table", "text"]
theorem sc_action_of : FnScope N_action_of ["table", "text"] (defScope s_action_of) := ⟨rfl, rfl, rfl, by decide +kernel, rfl, by decide +kernel, by decide +kernel⟩
theorem ok_action_of (c : Ctx K mg) : OkF P w K mg base (L2.CX P w) 8 "action_of" ["table", "text"] ((fun vs H Q E => ∃ t q z a tx, vs = [.ref t, .ref a] ∧ TbW H t q z ∧ LN H a tx ∧ tx.length ≤ 100000 ∧ OptA Q E H (actOf z (wordsOf tx)))) := by
  refine okF (f_action_of c) (g_action_of c) sc_action_of (fun _ _ _ _ _ _ us hl => match us, hl with | [_, _], _ => rfl) (fun vs H Q E h => by obtain ⟨t, q, z, a, tx, rfl, h, ha, hz, hQ⟩ := h; rfl) fun cdv A outer s H vs Q E hr h => ⟨_, (pss_one (ps_ret (pcall (ok_read_action c) (hr.mono (by decide)) (passes_call (takes_of rfl rfl rfl rfl) (fun _ _ _ _ h => h)) (pa_cons (pv 0) (pa_cons (pcall (E := E0) (ok_words_of c) (hr.mono (by decide)) passL (pa_cons (pv 1) (pa_cons pe_int (pa_cons (pe_callB (lenK (K := K) rfl) (by rfl) (b_len c) boot_len (pa_cons (pv 1) pa_nil)) pa_nil)))) pa_nil))))), ?_⟩
  obtain ⟨t, q, z, a, tx, rfl, h, ha, hz, hQ⟩ := h
  refine ⟨_, rfl, _, rfl, _, rfl, a, _, rfl, .inl (SqL.of ha), a, tx, 0, tx.length, by rw [List.length_map]; rfl, ha, Nat.zero_le _, Nat.le_refl _, hz, fun L H1 vs s1 hL hv hp => ?_⟩
  have hlw : LW H1 L (wordsOf tx) := by
    have := lw_of hv hp
    rw [cut_all] at this
    exact this
  have hzw : ∀ w ∈ wordsOf tx, w.length ≤ 100000 := fun w hw => by
    obtain ⟨tk, h1, rfl⟩ := List.mem_map.mp hw
    have := toks_short tk h1
    omega
  have hl := toks_len tx 0
  exact ⟨t, q, z, L, _, rfl, h.same s1, hlw, hzw, by unfold wordsOf; rw [List.length_map]; omega, hQ.same s1⟩
/-- the words of the lines -/
def rowsOf (t : List Nat) : List (List (List Nat)) := (linesP 0 0 t).map fun p => (toks p.1 (cut t p.1 p.2)).map (·.2)
def logOf (z : Vbndaa.Table) (t : List Nat) : Option (List Vbndaa.Action) := ((rowsOf t).filter fun r => decide (0 < r.length)).mapM (actOf z)
/-- a list of words -/
def RL (H : Hp) (v : V) (ws : List (List Nat)) : Prop := ∃ a, v = .ref a ∧ LW H a ws
theorem rl_mono : ∀ (H H' : Hp) (v : V) (e : List (List Nat)), Same H H' → RL H v e → RL H' v e := fun _ _ _ _ s ⟨a, h1, h2⟩ => ⟨a, h1, h2.same s⟩
def RAct (H : Hp) (v : V) (x : Vbndaa.Action) : Prop := ∃ a, v = .ref a ∧ ActAt H a x
theorem ract_mono : ∀ (H H' : Hp) (v : V) (e : Vbndaa.Action), Same H H' → RAct H v e → RAct H' v e := fun _ _ _ _ s ⟨a, h1, h2⟩ => ⟨a, h1, h2.same s⟩
/-- a line's action, read -/
def RRow (z : Vbndaa.Table) (H : Hp) (v : V) (ws : List (List Nat)) : Prop := ∃ x, actOf z ws = some x ∧ RAct H v x
theorem rrow_mono {z : Vbndaa.Table} : ∀ (H H' : Hp) (v : V) (e : List (List Nat)), Same H H' → RRow z H v e → RRow z H' v e := fun _ _ v _ s ⟨x, h1, h2⟩ => ⟨x, h1, ract_mono _ _ v x s h2⟩
theorem rrow_all {z : Vbndaa.Table} {H : Hp} : ∀ {vs : List V} {rs : List (List (List Nat))}, Paired (RRow z H) vs rs → ∃ xs, rs.mapM (actOf z) = some xs ∧ Paired (RAct H) vs xs
  | _, _, .nil => ⟨[], rfl, .nil⟩
  | _, _, .cons ⟨x, h1, h2⟩ t => by
    obtain ⟨o, h3, h4⟩ := rrow_all t
    refine ⟨x :: o, ?_, .cons h2 h4⟩
    rw [List.mapM_cons, h1, h3]
    rfl
theorem mapM_none {α β : Type} {f : α → Option β} {l : List α} {x : α} (h : x ∈ l) (hx : f x = none) : l.mapM f = none := by
  induction l with
  | nil => cases h
  | cons y r ih =>
    rw [List.mapM_cons]
    rcases List.mem_cons.mp h with e | e
    · subst e
      rw [hx]
      rfl
    · cases hy : f y with
      | none => rfl
      | some v =>
        rw [ih e]
        rfl
def OptL (Q : VK) (E : XK) (H : Hp) (o : Option (List Vbndaa.Action)) : Prop := match o with
  | some xs => RetR RAct Q H xs
  | none => ∀ H', Same H H' → Rf E H' (-3)
theorem row_len {t : List Nat} {ws : List (List Nat)} (h : ws ∈ rowsOf t) : ws.length ≤ t.length ∧ ∀ w ∈ ws, w.length ≤ t.length := by
  obtain ⟨p, hp, rfl⟩ := List.mem_map.mp h
  have hin := lines_in hp
  have h1 := toks_len (cut t p.1 p.2) p.1
  rw [cut_len hin.2] at h1
  refine ⟨by rw [List.length_map]; omega, fun w hw => ?_⟩
  obtain ⟨tk, h2, rfl⟩ := List.mem_map.mp hw
  have := toks_short tk h2
  rw [cut_len hin.2] at this
  omega
theorem toks_ne {p : Nat} {l : List Nat} : ∀ tk ∈ toks p l, tk.2 ≠ [] := by
  have key : ∀ (n : Nat) (l : List Nat) (p : Nat), l.length ≤ n → ∀ tk ∈ toks p l, tk.2 ≠ [] := by
    intro n
    induction n with
    | zero =>
      intro l p h tk ht
      cases l with
      | nil => simp [toks_nil] at ht
      | cons c r => simp at h
    | succ n ih =>
      intro l p h tk ht
      cases l with
      | nil => simp [toks_nil] at ht
      | cons c r =>
        by_cases e : c = 32
        · subst e
          rw [toks_sp] at ht
          exact ih r (p + 1) (by simpa using h) tk ht
        · have hp : 0 < wl (c :: r) := by
            unfold wl
            rw [if_neg e]
            omega
          rw [toks_w _ _ _ e] at ht
          rcases List.mem_cons.mp ht with q | q
          · subst q
            intro z
            have := congrArg List.length z
            rw [List.length_take] at this
            simp only [List.length_cons, List.length_nil] at this
            omega
          · exact ih ((c :: r).drop (wl (c :: r))) _ (by rw [List.length_drop]; simp only [List.length_cons] at h ⊢; omega) tk q
  exact fun tk ht => key l.length l p (Nat.le_refl _) tk ht
/-- words' own lists are other lists than one of references -/
theorem lw_drp {H : Hp} {W D : Addr} {ws : List (List Nat)} {vs : List V} (h : LW H W ws) (hW : W ≠ D) (hne : ∀ w ∈ ws, w ≠ []) (hD : H D = some (.lst vs)) (hv : ∀ v ∈ vs, ∃ a, v = .ref a) : LW (drp H [D]) W ws := by
  obtain ⟨as, h1, h2⟩ := h
  refine ⟨as, drp_at h1 (by simp [hW]), ?_⟩
  have key : ∀ {as : List Addr} {ws : List (List Nat)}, (∀ w ∈ ws, w ≠ []) → Paired (fun b w => LN H b w) as ws → Paired (fun b w => LN (drp H [D]) b w) as ws := by
    intro as ws hne h2
    induction h2 with
    | nil => exact .nil
    | @cons b w _ _ r t ih =>
      refine .cons (drp_at r (by
        simp only [List.mem_singleton]
        intro e
        have hw := hne w (by simp)
        have r' : H b = some _ := r
        rw [e, hD] at r'
        have e3 := HO.lst.inj (Option.some.inj r')
        cases w with
        | nil => exact hw rfl
        | cons n w =>
          obtain ⟨a, ha⟩ := hv (nv n) (by rw [e3]; simp)
          cases ha)) (ih fun w hw => hne w (by simp [hw]))
  exact key hne h2
theorem paired_all {α β : Type} {F : α → β → Prop} {G : α → Prop} (h : ∀ a b, F a b → G a) : ∀ {l : List α} {m : List β}, Paired F l m → ∀ a ∈ l, G a
  | _, _, .nil, a, ha => by cases ha
  | _, _, .cons r t, a, ha => by
    rcases List.mem_cons.mp ha with e | e
    · subst e
      exact h _ _ r
    · exact paired_all h t a e
abbrev N_log_of : List Str := ["table", "text", "rows", "start", "end", "words"]
theorem sc_log_of : FnScope N_log_of ["table", "text"] (defScope s_log_of) := ⟨rfl, rfl, rfl, by decide +kernel, rfl, by decide +kernel, by decide +kernel⟩
theorem ok_log_of (c : Ctx K mg) : OkF P w K mg base (L2.CX P w) 8 "log_of" ["table", "text"] ((fun vs H Q E => ∃ t q z a tx, vs = [.ref t, .ref a] ∧ TbW H t q z ∧ LN H a tx ∧ tx.length ≤ 100000 ∧ OptL Q E H (logOf z tx))) := by
  refine okF (f_log_of c) (g_log_of c) sc_log_of (fun _ _ _ _ _ _ us hl => match us, hl with | [_, _], _ => rfl) (fun vs H Q E h => by obtain ⟨t, q, z, a, tx, rfl, h, ha, hz, hQ⟩ := h; rfl) fun cdv A outer s H vs Q E hr h => ⟨_, (pss_cons (ps_setLc (i := 2) (g := gTup K 2 (gCons (gName 3) (gCons (gName 4) gNil))) (own := [("start", 3), ("end", 4)]) rfl sc_log_of.nd rfl rfl (sw_true rfl rfl rfl (by decide +kernel)) (pi_list (pcall (E := E0) (ok_lines_of c) (hr.mono (by decide)) passL (pa_cons (pv 1) pa_nil))) (blkOk_by (own := [("start", 3), ("end", 4)]) (N := N_log_of) (sc := defScope s_log_of) (by decide +kernel)) (fun _ _ _ _ _ => (pg_tup rfl (pgs_cons (pg_name (i := 3) sc_log_of.nd rfl (Or.inl rfl) (hf := Or.inr (by rfl))) (pgs_cons (pg_name (i := 4) sc_log_of.nd rfl (Or.inl rfl) (hf := Or.inr (by rfl))) pgs_nil)))) (fun _ _ _ _ _ => pts_nil) (fun _ _ _ _ _ => (pcall (E := E0) (ok_words_of c) (hr.mono (by decide)) passL (pa_cons (pv 1) (pa_cons (pv 3) (pa_cons (pv 4) pa_nil))))))
      (pss_one (ps_ret (pe_lcX (E := E) (g := gName 5) (own := [("words", 5)]) rfl rfl (takes_of rfl rfl rfl rfl) rfl sc_log_of.nd (pi_list (pv 2)) (blkOk_by (own := [("words", 5)]) (N := N_log_of) (sc := defScope s_log_of) (by decide +kernel)) (fun _ _ _ _ _ _ => (pg_name (i := 5) sc_log_of.nd rfl (Or.inl rfl) (hf := Or.inr (by rfl)))) (fun _ _ _ _ _ _ => pts_one (pt_cmpR op_gt (pe_callB (lenK (K := K) rfl) (by rfl) (b_len c) boot_len (pa_cons (pv 5) pa_nil)) pe_int (nomark _))) (fun _ _ _ _ _ _ hx => (pcall (E := E) (ok_read_action c) (hr.mono (by decide)) hx (pa_cons (pv 0) (pa_cons (pv 5) pa_nil)))))))), ?_⟩
  obtain ⟨t, q, z, a, tx, rfl, h, ha, hz, hQ⟩ := h
  refine ⟨_, rfl, a, tx, rfl, ha, hz, fun L H1 vs s1 hL hv hp => ?_⟩
  refine ⟨L, rfl, ⟨_, SqL.of hv⟩, fun D hD => ?_⟩
  refine lcR walk_list RL (fun i => (rowsOf tx).take i) rl_mono hD rfl (fun H' s' => SqL.of (s' _ _ hv)) (fun i x H2 H3 hi p y => ?_) (fun H' us s' hd p => ?_)
  · obtain ⟨rfl, hx⟩ := y
    obtain ⟨pr, hpr, T, rfl, hT⟩ := pr_get hp hx
    have s2 := s1.trans p.2.1
    have hin := lines_in (List.mem_of_getElem? hpr)
    refine ⟨T, _, rfl, SqT.of (p.2.1 _ _ hT), rfl, _, _, rfl, _, _, rfl, rfl, rfl, ?_⟩
    refine ⟨_, rfl, _, rfl, _, rfl, a, tx, pr.1, pr.2, rfl, s2 _ _ ha, hin.1, hin.2, hz, fun W H4 ws s4 hW hw hps => ?_⟩
    have hrow : (rowsOf tx)[i]? = some ((toks pr.1 (cut tx pr.1 pr.2)).map (·.2)) := by
      unfold rowsOf
      rw [List.getElem?_map, hpr]
      rfl
    have hll := lines_len tx 0 0
    obtain ⟨_, _, vs0, hD3, hv0⟩ := id p
    have hD4 := s4 _ _ hD3
    refine p.yes rl_mono s4 (take_succ hrow) ⟨W, rfl, lw_drp (lw_of hw hps) (ne_of_none hD3 hW).symm (fun w hw => ?_) hD4 (paired_all (fun v _ ⟨a, e, _⟩ => ⟨a, e⟩) hv0)⟩ (by rw [List.length_take]; rw [hp.length] at hi; omega)
    obtain ⟨tk, h2, rfl⟩ := List.mem_map.mp hw
    exact toks_ne tk h2
  · have hlen : vs.length = (rowsOf tx).length := by
      unfold rowsOf
      rw [hp.length, List.length_map]
    rw [List.take_of_length_le (by omega)] at p
    have s12 := s1.trans s'
    have hlr : (rowsOf tx).length ≤ tx.length + 1 := by
      unfold rowsOf
      rw [List.length_map]
      exact lines_len tx 0 0
    refine ⟨_, rfl, D, rfl, ⟨_, SqL.of hd⟩, fun D2 hD2 => ?_⟩
    refine lcR walk_list (RRow z) (fun i => ((rowsOf tx).take i).filter fun r => decide (0 < r.length)) rrow_mono hD2 rfl (fun H3 s3 => SqL.of (s3 _ _ hd)) (fun i x H3 H4 hi p2 y => ?_) (fun H3 us3 s3 hd3 p3 => ?_)
    · obtain ⟨rfl, hx⟩ := y
      obtain ⟨ws, hws, W, rfl, hW⟩ := pr_get p hx
      have hW4 := hW.same p2.2.1
      obtain ⟨xs, hx1, hx2⟩ := hW4.len
      have s4 := s12.trans p2.2.1
      refine ⟨rfl, _, rfl, W, _, rfl, .inl (SqL.of hx1), _, _, rfl, rfl, _, rfl, ?_⟩
      rw [hx2]
      have hrl := row_len (List.mem_of_getElem? hws)
      by_cases c1 : 0 < ws.length
      · rw [decide_eq_true (show (0 : Int) < (ws.length : Int) by omega)]
        refine iteT ⟨_, rfl, _, rfl, t, q, z, W, ws, rfl, h.same s4, hW4, fun w hw => by have := hrl.2 w hw; omega, by omega, ?_⟩
        have hmem : ws ∈ (rowsOf tx).filter fun r => decide (0 < r.length) := List.mem_filter.mpr ⟨List.mem_of_getElem? hws, decide_eq_true c1⟩
        cases ha : actOf z ws with
        | none =>
          unfold logOf at hQ
          rw [mapM_none hmem ha] at hQ
          exact fun H5 s5 => hQ H5 (s4.trans s5)
        | some xa =>
          intro a' H5 s5 hA
          obtain ⟨dx, b, g1, g2, g3, g4⟩ := hA
          obtain ⟨_, _, vs0, hD3, _⟩ := id p2
          exact p2.yes rrow_mono s5 (e := ws) (by rw [take_succ hws, List.filter_append, List.filter_cons_of_pos (by simpa using c1)]; rfl) ⟨xa, ha, a', rfl, dx, b, drp_at g1 (by simpa using (ne_of_none hD3 g3).symm), drp_at g2 (by simpa using (ne_of_none hD3 g4).symm)⟩
            (Nat.lt_of_le_of_lt (List.length_filter_le _ _) (by rw [List.length_take]; omega))
      · rw [decide_eq_false (show ¬ (0 : Int) < (ws.length : Int) by omega)]
        exact iteF (p2.no rrow_mono (Same.refl _) (by rw [take_succ hws, List.filter_append, List.filter_cons_of_neg (by simpa using c1), List.filter_nil, List.append_nil]))
    · have hul : us.length = (rowsOf tx).length := p.length
      rw [List.take_of_length_le (by omega)] at p3
      obtain ⟨xs, h1, h2⟩ := rrow_all p3
      unfold logOf at hQ
      rw [h1] at hQ
      exact hQ D2 H3 us3 (s12.trans s3) (s12.old hD2) hd3 h2
end

end VD
namespace VD
open PySem PySem.Spec PyProof.Rows L2
theorem bind_opt {α β : Type} {x : Except Vbndaa.ParseError α} {f : α → Except Vbndaa.ParseError β} : opt (match x with | .error e => .error e | .ok a => f a) = (opt x).bind fun a => opt (f a) := by
  cases x <;> rfl
theorem expect_end {α : Type} {x : α} {ts : List Vbndaa.Token} {e : Nat} : opt (Vbndaa.expectEnd 1 x ⟨ts, e⟩) = if ts = [] then some x else none := by
  cases ts <;> rfl
theorem numbers_eq : ∀ (f : Nat) (had : List Nat) (ts : List Vbndaa.Token) (e : Nat), ts.length ≤ f → opt (Vbndaa.parseNumbers f had ⟨ts, e⟩) = (posAll (ts.map (·.bytes))).map fun o => (had ++ o, ⟨[], e⟩)
  | 0, had, [], e, _ => by
    show some (had, _) = some (had ++ [], _)
    rw [List.append_nil]
  | f + 1, had, [], e, _ => by
    show some (had, _) = some (had ++ [], _)
    rw [List.append_nil]
  | f + 1, had, t :: tr, e, h => by
    have ih := fun had' => numbers_eq f had' tr e (by simpa using h)
    have hm := nat_range (lo := 0) (hi := 51) (ts := t :: tr) (e := e)
    simp only at hm
    have hp : posAll ((t :: tr).map (·.bytes)) = (posW t.bytes).bind fun n => (posAll (tr.map (·.bytes))).map fun o => n :: o := by
      unfold posAll
      rw [List.map_cons, List.mapM_cons]
      cases posW t.bytes with
      | none => rfl
      | some n => cases List.mapM posW (tr.map (·.bytes)) <;> rfl
    rw [hp]
    unfold Vbndaa.parseNumbers
    simp only [List.isEmpty_cons, Bool.false_eq_true, if_false]
    unfold posW
    by_cases c : isNum t.bytes = true ∧ 0 ≤ Vbndaa.valueOf t.bytes ∧ Vbndaa.valueOf t.bytes ≤ 51
    · rw [if_pos c] at hm
      rw [opt_ok hm, if_pos ⟨c.1, by omega⟩]
      simp only [Option.bind_some]
      rw [ih]
      cases posAll (tr.map (·.bytes)) with
      | none => rfl
      | some o => simp
    · rw [if_neg c] at hm
      obtain ⟨er, hm⟩ := opt_err hm
      rw [hm, if_neg (fun q => c ⟨q.1, Nat.zero_le _, by omega⟩)]
      rfl
theorem pos_range {ts : List Vbndaa.Token} {e : Nat} : opt (Vbndaa.parseNatInRange 0 51 ⟨ts, e⟩) = match ts with
    | [] => none
    | t :: tr => (posW t.bytes).map fun n => (n, ⟨tr, e⟩) := by
  rw [nat_range]
  cases ts with
  | nil => rfl
  | cons t tr =>
    simp only
    unfold posW
    by_cases c : isNum t.bytes = true ∧ 0 ≤ Vbndaa.valueOf t.bytes ∧ Vbndaa.valueOf t.bytes ≤ 51
    · rw [if_pos c, if_pos ⟨c.1, by omega⟩]
      rfl
    · rw [if_neg c, if_neg (fun q => c ⟨q.1, Nat.zero_le _, by omega⟩)]
      rfl
theorem next_is {s : String} {t : Vbndaa.Token} {tr : List Vbndaa.Token} {e : Nat} : (Vbndaa.nextTokenIs (Vbndaa.toBytes s) ⟨t :: tr, e⟩ = true) ↔ t.bytes = Vbndaa.toBytes s := by
  show ((t.bytes == Vbndaa.toBytes s) = true) ↔ _
  rw [beq_iff_eq]
theorem all_not_name : isName (Vbndaa.toBytes "all") = false := by decide +kernel
def permT (z : Vbndaa.Table) (p : Nat) (b : Option Nat) (tr : List Vbndaa.Token) : Option Vbndaa.Action := match tr with
  | [t3, t4] => if t3.bytes = Vbndaa.toBytes "to" then b.bind fun b => (rcvW z t4.bytes).map fun r => .grant p b r else none
  | _ => none
theorem permits_tok (z : Vbndaa.Table) (p : Nat) (w0 w1 w2 : List Nat) (tr : List Vbndaa.Token) : permitsOf z p (w0 :: w1 :: w2 :: tr.map (·.bytes)) = permT z p (posW w2) tr := by
  match tr with
  | [] => rfl
  | [t3] => rfl
  | [t3, t4] => rfl
  | _ :: _ :: _ :: _ => rfl
theorem permT_none (z : Vbndaa.Table) (p : Nat) (tr : List Vbndaa.Token) : permT z p none tr = none := by
  unfold permT
  split
  · simp
  · rfl
theorem parse_act_tok {z : Vbndaa.Table} (hz : Wz z) (ts : List Vbndaa.Token) (e : Nat) : opt (Vbndaa.parseActionTokens z ⟨ts, e⟩) = actOf z (ts.map (·.bytes)) := by
  obtain ⟨_, _, _, _, _, _, _, _, h9, _⟩ := id hz
  unfold Vbndaa.parseActionTokens
  have hk := known_name h9 (ts := ts) (e := e)
  cases ts with
  | nil => rfl
  | cons t0 tr =>
    simp only at hk
    simp only [List.map_cons]
    cases hp : z.players.findIdx? fun x => x == t0.bytes with
    | none =>
      rw [hp] at hk
      obtain ⟨er, hk⟩ := opt_err hk
      rw [hk]
      unfold actOf
      cases tr with
      | nil => rfl
      | cons t1 tr =>
        simp only [List.map_cons]
        rw [hp]
        rfl
    | some p =>
      rw [hp] at hk
      rw [opt_ok hk]
      simp only
      cases tr with
      | nil => rfl
      | cons t1 tr =>
        unfold actOf
        simp only [List.map_cons]
        rw [hp]
        simp only [Option.bind_some]
        by_cases c1 : t1.bytes = Vbndaa.toBytes "lays"
        · rw [if_pos (next_is.mpr c1), if_pos c1]
          have hn := numbers_eq (tr.length + 1) [] tr e (by omega)
          show opt (match Vbndaa.parseNumbers (tr.length + 1) [] ⟨tr, e⟩ with
            | .error e => .error e
            | .ok (l, q) => Vbndaa.expectEnd 1 (Vbndaa.Action.submit p l) q) = _
          cases ho : posAll (tr.map (·.bytes)) with
          | none =>
            rw [ho] at hn
            obtain ⟨er, hn⟩ := opt_err hn
            rw [hn]
            rfl
          | some o =>
            rw [ho] at hn
            rw [opt_ok hn]
            rfl
        · rw [if_neg (fun q => c1 (next_is.mp q)), if_neg c1]
          by_cases c2 : t1.bytes = Vbndaa.toBytes "permits"
          · rw [if_pos (next_is.mpr c2), if_pos c2]
            have hb := pos_range (ts := tr) (e := e)
            show opt (Except.bind (Vbndaa.parseNatInRange 0 51 ⟨tr, e⟩) _) = _
            cases tr with
            | nil =>
              obtain ⟨er, hb⟩ := opt_err hb
              rw [hb]
              rfl
            | cons t2 tr =>
              simp only at hb
              simp only [List.map_cons]
              rw [permits_tok]
              cases hv : posW t2.bytes with
              | none =>
                rw [hv] at hb
                obtain ⟨er, hb⟩ := opt_err hb
                rw [hb]
                rw [permT_none]
                rfl
              | some b =>
                rw [hv] at hb
                rw [opt_ok hb]
                show opt (Except.bind (Vbndaa.expectToken 1 (Vbndaa.toBytes "to") ⟨tr, e⟩) _) = _
                cases tr with
                | nil => rfl
                | cons t3 tr =>
                  by_cases c3 : t3.bytes = Vbndaa.toBytes "to"
                  · have he : Vbndaa.expectToken 1 (Vbndaa.toBytes "to") ⟨t3 :: tr, e⟩ = .ok ((), ⟨tr, e⟩) := by
                      unfold Vbndaa.expectToken Vbndaa.parseToken
                      simp only
                      rw [if_pos c3]
                    rw [he]
                    show opt (if Vbndaa.nextTokenIs (Vbndaa.toBytes "all") ⟨tr, e⟩ = true then Vbndaa.expectEnd 1 (Vbndaa.Action.grant p b none) (Vbndaa.skipToken ⟨tr, e⟩) else Except.bind (Vbndaa.parseKnownName z.players ⟨tr, e⟩) fun x => Vbndaa.expectEnd 1 (Vbndaa.Action.grant p b (some x.1)) x.2) = _
                    cases tr with
                    | nil => rfl
                    | cons t4 tr =>
                      by_cases c4 : t4.bytes = Vbndaa.toBytes "all"
                      · rw [if_pos (next_is.mpr c4)]
                        cases tr with
                        | nil =>
                          unfold permT rcvW
                          simp only
                          rw [if_pos c3]
                          rw [if_pos c4]
                          rfl
                        | cons t5 tr => rfl
                      · rw [if_neg (fun q => c4 (next_is.mp q))]
                        have hk4 := known_name h9 (ts := t4 :: tr) (e := e)
                        simp only at hk4
                        cases h4 : z.players.findIdx? fun x => x == t4.bytes with
                        | none =>
                          rw [h4] at hk4
                          obtain ⟨er, hk4⟩ := opt_err hk4
                          rw [hk4]
                          cases tr with
                          | nil =>
                            unfold permT rcvW
                            simp only
                            rw [if_pos c3, if_neg c4, h4]
                            rfl
                          | cons t5 tr => rfl
                        | some x =>
                          rw [h4] at hk4
                          rw [opt_ok hk4]
                          cases tr with
                          | nil =>
                            unfold permT rcvW
                            simp only
                            rw [if_pos c3, if_neg c4, h4]
                            rfl
                          | cons t5 tr => rfl
                  · have he : Vbndaa.expectToken 1 (Vbndaa.toBytes "to") ⟨t3 :: tr, e⟩ = .error ⟨1, t3.offset⟩ := by
                      unfold Vbndaa.expectToken Vbndaa.parseToken
                      simp only
                      rw [if_neg c3]
                    rw [he]
                    match tr with
                    | [] => rfl
                    | [t4] =>
                      show none = if _ then _ else _
                      rw [if_neg c3]
                    | _ :: _ :: _ => rfl
          · rw [if_neg (fun q => c2 (next_is.mp q)), if_neg c2]
            by_cases c3 : t1.bytes = Vbndaa.toBytes "takes"
            · rw [if_pos (next_is.mpr c3), if_pos c3]
              have hb := pos_range (ts := tr) (e := e)
              show opt (match Vbndaa.parseNatInRange 0 51 ⟨tr, e⟩ with
                | .error e => .error e
                | .ok (b, q) => Vbndaa.expectEnd 1 (Vbndaa.Action.claim p b) q) = _
              cases tr with
              | nil =>
                obtain ⟨er, hb⟩ := opt_err hb
                rw [hb]
                rfl
              | cons t2 tr =>
                simp only at hb
                simp only [List.map_cons]
                cases hv : posW t2.bytes with
                | none =>
                  rw [hv] at hb
                  obtain ⟨er, hb⟩ := opt_err hb
                  rw [hb]
                  cases tr with
                  | nil => simp [hv, opt]
                  | cons _ _ => rfl
                | some b =>
                  rw [hv] at hb
                  rw [opt_ok hb]
                  cases tr with
                  | nil => simp [hv, opt, Vbndaa.expectEnd]
                  | cons _ _ => rfl
            · rw [if_neg (fun q => c3 (next_is.mp q)), if_neg c3]
              rfl
theorem parse_act_eq {z : Vbndaa.Table} (hz : Wz z) (t : List Nat) : opt (Vbndaa.parseAction z t) = actOf z (wordsOf t) := by
  have e : wordsOf t = (Vbndaa.tokenizeWith Vbndaa.noSeparators 0 t).map (·.bytes) := by
    unfold wordsOf toks
    rw [List.map_map]
    rfl
  rw [e]
  exact parse_act_tok hz _ _
theorem parse_acts_ln {z : Vbndaa.Table} (hz : Wz z) : ∀ (ls : List (Nat × List Nat)) (had : List Vbndaa.Action),
    opt (Vbndaa.parseLines Vbndaa.noSeparators (fun l r => match Vbndaa.parseActionTokens z r with
      | .error e => .error e
      | .ok a => .ok (l ++ [a])) had ls) = (((ls.map fun x => (toks x.1 x.2).map (·.2)).filter fun r => decide (0 < r.length)).mapM (actOf z)).map fun as => had ++ as
  | [], had => by
    show some had = some (had ++ [])
    rw [List.append_nil]
  | x :: l, had => by
    have ih := fun had' => parse_acts_ln hz l had'
    unfold Vbndaa.parseLines
    have ew : (toks x.1 x.2).map (·.2) = (Vbndaa.tokenizeWith Vbndaa.noSeparators x.1 x.2).map (·.bytes) := by
      unfold toks
      rw [List.map_map]
      rfl
    rw [List.map_cons]
    by_cases em : (Vbndaa.tokenizeWith Vbndaa.noSeparators x.1 x.2).isEmpty = true
    · rw [if_pos em, List.filter_cons_of_neg (by rw [ew, List.isEmpty_iff.mp em]; simp)]
      exact ih had
    · have hne : Vbndaa.tokenizeWith Vbndaa.noSeparators x.1 x.2 ≠ [] := fun e => em (by rw [e]; rfl)
      rw [if_neg em, List.filter_cons_of_pos (by rw [ew, List.length_map]; simpa using List.length_pos_iff.mpr hne)]
      have hp := parse_act_tok hz (Vbndaa.tokenizeWith Vbndaa.noSeparators x.1 x.2) (x.1 + x.2.length)
      rw [List.mapM_cons, ew]
      cases ha : actOf z ((Vbndaa.tokenizeWith Vbndaa.noSeparators x.1 x.2).map (·.bytes)) with
      | none =>
        rw [ha] at hp
        obtain ⟨er, hp⟩ := opt_err hp
        have hp : Vbndaa.parseActionTokens z (Vbndaa.cursorOf Vbndaa.noSeparators x.1 x.2) = _ := hp
        rw [hp]
        rfl
      | some a =>
        rw [ha] at hp
        have hp : Vbndaa.parseActionTokens z (Vbndaa.cursorOf Vbndaa.noSeparators x.1 x.2) = _ := opt_ok hp
        rw [hp]
        simp only
        rw [ih]
        cases List.mapM (actOf z) ((l.map fun x => (toks x.1 x.2).map (·.2)).filter fun r => decide (0 < r.length)) with
        | none => rfl
        | some as => simp
theorem parse_acts_eq {z : Vbndaa.Table} (hz : Wz z) (t : List Nat) : opt (Vbndaa.parseActions z t) = logOf z t := by
  unfold Vbndaa.parseActions Vbndaa.parseText
  refine Eq.trans (parse_acts_ln hz (Vbndaa.splitAtByte 10 0 t) []) ?_
  have e : (Vbndaa.splitAtByte 10 0 t).map (fun x => (toks x.1 x.2).map (·.2)) = rowsOf t := by
    unfold rowsOf
    rw [lines_split, List.map_map]
    refine List.map_congr_left fun x hx => ?_
    show _ = (toks x.1 (cut t x.1 (x.1 + x.2.length))).map (·.2)
    rw [cut_lines t 0 t rfl x hx]
  rw [e]
  unfold logOf
  cases List.mapM (actOf z) ((rowsOf t).filter fun r => decide (0 < r.length)) <;> simp

end VD
namespace VD
open PySem PySem.Spec PyProof.Rows L2
/-- an action that names what is there -/
def Wa (z : Vbndaa.Table) : Vbndaa.Action → Prop
  | .submit p o => p < z.players.length ∧ (∀ n ∈ o, n < 52) ∧ o.length ≤ 60000
  | .grant p b to => p < z.players.length ∧ b < 52 ∧ ∀ y, to = some y → y < z.players.length
  | .claim p b => p < z.players.length ∧ b < 52
theorem Wa.player {z : Vbndaa.Table} {x : Vbndaa.Action} (h : Wa z x) : Vbndaa.actingPlayer x < z.players.length := by
  cases x with
  | submit p o => exact h.1
  | grant p b to => exact h.1
  | claim p b => exact h.1
theorem posW_lt {w : List Nat} {n : Nat} (h : posW w = some n) : n < 52 := by
  unfold posW at h
  split at h
  · rename_i c
    cases h
    exact c.2
  · cases h
theorem posAll_facts : ∀ {ws : List (List Nat)} {o : List Nat}, posAll ws = some o → o.length = ws.length ∧ ∀ n ∈ o, n < 52
  | [], o, h => by
    cases h
    exact ⟨rfl, by simp⟩
  | w :: r, o, h => by
    unfold posAll at h
    rw [List.mapM_cons] at h
    cases hw : posW w with
    | none => rw [hw] at h; cases h
    | some n =>
      rw [hw] at h
      cases hr : List.mapM posW r with
      | none => rw [hr] at h; cases h
      | some o' =>
        rw [hr] at h
        cases h
        obtain ⟨h1, h2⟩ := posAll_facts (ws := r) (o := o') hr
        refine ⟨by simp [h1], fun m hm => ?_⟩
        rcases List.mem_cons.mp hm with e | e
        · rw [e]; exact posW_lt hw
        · exact h2 m e
theorem rcvW_ok {z : Vbndaa.Table} {w : List Nat} {r : Option Nat} (h : rcvW z w = some r) : ∀ y, r = some y → y < z.players.length := by
  unfold rcvW at h
  split at h
  · cases h
    intro y e
    cases e
  · cases hx : z.players.findIdx? fun x => x == w with
    | none => rw [hx] at h; cases h
    | some i =>
      rw [hx] at h
      cases h
      intro y e
      cases e
      exact findIdx_lt hx
theorem wa_permits {z : Vbndaa.Table} {p : Nat} {ws : List (List Nat)} {x : Vbndaa.Action} (hp : p < z.players.length) (h : permitsOf z p ws = some x) : Wa z x := by
  unfold permitsOf at h
  split at h
  · split at h
    · rename_i w2 w3 w4 _
      cases hv : posW w2 with
      | none => rw [hv] at h; cases h
      | some b =>
        rw [hv] at h
        cases hr : rcvW z w4 with
        | none => rw [hr] at h; cases h
        | some r =>
          rw [hr] at h
          cases h
          exact ⟨hp, posW_lt hv, rcvW_ok hr⟩
    · cases h
  · cases h
theorem wa_act {z : Vbndaa.Table} {ws : List (List Nat)} {x : Vbndaa.Action} (hl : ws.length ≤ 60000) (h : actOf z ws = some x) : Wa z x := by
  unfold actOf at h
  split at h
  · rename_i w0 w1 r
    cases hp : z.players.findIdx? fun x => x == w0 with
    | none => rw [hp] at h; cases h
    | some p =>
      rw [hp] at h
      simp only [Option.bind_some] at h
      have hpl := findIdx_lt hp
      split at h
      · cases ho : posAll r with
        | none => rw [ho] at h; cases h
        | some o =>
          rw [ho] at h
          cases h
          obtain ⟨h1, h2⟩ := posAll_facts ho
          exact ⟨hpl, h2, by rw [h1]; simp only [List.length_cons] at hl; omega⟩
      · split at h
        · exact wa_permits hpl h
        · split at h
          · split at h
            · rename_i w2
              cases hv : posW w2 with
              | none => rw [hv] at h; cases h
              | some b =>
                rw [hv] at h
                cases h
                exact ⟨hpl, posW_lt hv⟩
            · cases h
          · cases h
  · cases h
theorem wa_log {z : Vbndaa.Table} {t : List Nat} {xs : List Vbndaa.Action} (hl : t.length ≤ 60000) (h : logOf z t = some xs) : (∀ x ∈ xs, Wa z x) ∧ xs.length ≤ t.length + 1 := by
  have key : ∀ {rs : List (List (List Nat))} {xs : List Vbndaa.Action}, (∀ r ∈ rs, r.length ≤ 60000) → rs.mapM (actOf z) = some xs → (∀ x ∈ xs, Wa z x) ∧ xs.length = rs.length := by
    intro rs
    induction rs with
    | nil =>
      intro xs _ h
      cases h
      exact ⟨by simp, rfl⟩
    | cons r rs ih =>
      intro xs hr h
      rw [List.mapM_cons] at h
      cases ha : actOf z r with
      | none => rw [ha] at h; cases h
      | some x =>
        rw [ha] at h
        cases hm : List.mapM (actOf z) rs with
        | none => rw [hm] at h; cases h
        | some ys =>
          rw [hm] at h
          cases h
          obtain ⟨h1, h2⟩ := ih (fun r h => hr r (by simp [h])) hm
          refine ⟨fun y hy => ?_, by simp [h2]⟩
          rcases List.mem_cons.mp hy with e | e
          · rw [e]; exact wa_act (hr r (by simp)) ha
          · exact h1 y e
  unfold logOf at h
  obtain ⟨h1, h2⟩ := key (fun r hr => by
    have := (row_len (List.mem_filter.mp hr).1).1
    omega) h
  refine ⟨h1, ?_⟩
  rw [h2]
  refine Nat.le_trans (List.length_filter_le _ _) ?_
  unfold rowsOf
  rw [List.length_map]
  exact lines_len t 0 0
def rcvT (z : Vbndaa.Table) : Option Nat → List Nat
  | none => Vbndaa.toBytes "all"
  | some x => z.players.getD x []
def deedW : List (List Nat) := ["lays", "permits", "takes"].map Vbndaa.toBytes
/-- the words behind the player's name and the deed -/
def restW (z : Vbndaa.Table) : Vbndaa.Action → List (List Nat)
  | .submit _ o => o.map Vbndaa.decimalBytes
  | .grant _ b to => [Vbndaa.decimalBytes b, Vbndaa.toBytes "to", rcvT z to]
  | .claim _ b => [Vbndaa.decimalBytes b]
def actW (z : Vbndaa.Table) (x : Vbndaa.Action) : List (List Nat) := Vbndaa.playerName z (Vbndaa.actingPlayer x) :: deedW.getD (deedOf x) [] :: restW z x
theorem actW_print (z : Vbndaa.Table) (x : Vbndaa.Action) : Vbndaa.joinWithSpaces (actW z x) = Vbndaa.printAction z x := by
  cases x with
  | submit p o => rfl
  | grant p b to => cases to <;> rfl
  | claim p b => rfl
theorem join_le {m : Nat} : ∀ {ws : List (List Nat)}, (∀ w ∈ ws, w.length ≤ m) → (Vbndaa.joinWithSpaces ws).length ≤ ws.length * (m + 1)
  | [], _ => by simp [Vbndaa.joinWithSpaces]
  | [w], h => by
    have := h w (by simp)
    show w.length ≤ 1 * (m + 1)
    omega
  | w :: x :: l, h => by
    have ih := join_le (ws := x :: l) fun y hy => h y (by simp [hy])
    have := h w (by simp)
    show (w ++ 32 :: Vbndaa.joinWithSpaces (x :: l)).length ≤ (l.length + 1 + 1) * (m + 1)
    rw [List.length_append, List.length_cons, Nat.succ_mul]
    simp only [List.length_cons] at ih
    omega
theorem player_word {z : Vbndaa.Table} (hz : Wz z) {p : Nat} (hp : p < z.players.length) : z.players.getD p [] ≠ [] ∧ (z.players.getD p []).length ≤ 12 := by
  have hn := wz_names hz (k := 3) rfl _ (List.mem_of_getElem? (getD_at (d := []) hp))
  exact ⟨isName_pos hn, isName_len hn⟩
theorem actW_ok {z : Vbndaa.Table} (hz : Wz z) {x : Vbndaa.Action} (h : Wa z x) : ∀ w ∈ actW z x, w ≠ [] ∧ w.length ≤ 12 := by
  have dk : ∀ n, n < 52 → Vbndaa.decimalBytes n ≠ [] ∧ (Vbndaa.decimalBytes n).length ≤ 12 := fun n hn => by
    have := dec_len (n := n) (by omega)
    exact ⟨this.1, by omega⟩
  have rc : ∀ to : Option Nat, (∀ y, to = some y → y < z.players.length) → rcvT z to ≠ [] ∧ (rcvT z to).length ≤ 12 := fun to h => by
    cases to with
    | none =>
      show Vbndaa.toBytes "all" ≠ [] ∧ (Vbndaa.toBytes "all").length ≤ 12
      exact ⟨by decide +kernel, by decide +kernel⟩
    | some y => exact player_word hz (h y rfl)
  intro w hw
  unfold actW at hw
  rcases List.mem_cons.mp hw with e | hw
  · rw [e]; exact player_word hz h.player
  rcases List.mem_cons.mp hw with e | hw
  · rw [e]
    have dw : ∀ k, k < 3 → deedW.getD k [] ≠ [] ∧ (deedW.getD k []).length ≤ 12 := by decide +kernel
    exact dw _ (by cases x <;> (simp only [deedOf]; omega))
  cases x with
  | submit p o =>
    obtain ⟨n, hn, rfl⟩ := List.mem_map.mp hw
    exact dk n (h.2.1 n hn)
  | grant p b to =>
    simp only [restW, List.mem_cons, List.not_mem_nil, or_false] at hw
    rcases hw with e | e | e <;> rw [e]
    · exact dk b h.2.1
    · exact ⟨by decide +kernel, by decide +kernel⟩
    · exact rc to h.2.2
  | claim p b =>
    simp only [restW, List.mem_cons, List.not_mem_nil, or_false] at hw
    rw [hw]
    exact dk b h.2
theorem deedW_at {k : Nat} (h : k < 3) : ∃ z : Str, ([.str (Str.ofString "lays"), .str (Str.ofString "permits"), .str (Str.ofString "takes")] : List V)[k]? = some (.str z) ∧ z.cps.toList = deedW.getD k [] ∧ (deedW.getD k []).length ≤ 7 := by
  match k, h with
  | 0, _ => exact ⟨_, rfl, by decide +kernel, by decide +kernel⟩
  | 1, _ => exact ⟨_, rfl, by decide +kernel, by decide +kernel⟩
  | 2, _ => exact ⟨_, rfl, by decide +kernel, by decide +kernel⟩
section
variable {P : Program} {w : World} {K : PySem.W.Frag} {mg : Str → Option Value} {base : Heap}
abbrev N_receiver_word : List Str := ["table", "receiver"]
theorem sc_receiver_word : FnScope N_receiver_word ["table", "receiver"] (defScope s_receiver_word) := ⟨rfl, rfl, rfl, by decide +kernel, rfl, by decide +kernel, by decide +kernel⟩
theorem ok_receiver_word (c : Ctx K mg) : OkF P w K mg base (L2.CX P w) 2 "receiver_word" ["table", "receiver"] ((fun vs H Q _ => ∃ t q z r, vs = [.ref t, .int (rcvI r)] ∧ TbW H t q z ∧ (∀ y, r = some y → y < z.players.length) ∧ ∀ p H', Same H H' → LN H' p (rcvT z r) → Q (.ref p) H')) := by
  refine okF (f_receiver_word c) (g_receiver_word c) sc_receiver_word (fun _ _ _ _ _ _ us hl => match us, hl with | [_, _], _ => rfl) (fun vs H Q E h => by obtain ⟨t, q, z, r, rfl, h, hr, hQ⟩ := h; rfl) fun cdv A outer s H vs Q E hr h => ⟨_, (pss_cons (ps_if (pt_cmpR op_eq (pv 1) (pgi (i_EVERYBODY c)) (nomark _)) (pss_one (ps_ret (pcall (E := E0) (ok_bytes_of c) (hr.mono (by decide)) passL (pa_cons pe_str pa_nil)))) pss_nil)
      (pss_one (ps_ret (pe_ix (ix_listK (K := K) rfl) (pe_ix (ix_listK (K := K) rfl) (pe_fldK (K := K) rfl (pv 0)) (pgi (i_PLAYER c)) (fun _ _ => rfl)) (pv 1) (fun _ _ => rfl))))), ?_⟩
  obtain ⟨t, q, z, r, rfl, h, hr, hQ⟩ := h
  refine ⟨_, rfl, rfl, _, rfl, ?_⟩
  cases r with
  | none =>
    refine iteT ⟨_, Vbndaa.toBytes "all", rfl, ofString_cps _, by decide +kernel, fun p H1 s1 hp hv => hQ p H1 s1 hv⟩
  | some y =>
    have hy := hr y rfl
    refine ite2 (fun e => absurd (of_decide_eq_true e) (fun e => by injection e with e; have e : (y : Int) = -1 := e; omega)) (fun _ => ?_)
    obtain ⟨dx2, as, a, h2, h3, h4, h5⟩ := h.kind (k := 3) rfl
    obtain ⟨xs, b, h6, h7, h8⟩ := h5.get (getD_at (d := []) hy)
    exact ⟨_, rfl, t, _, _, _, _, rfl, h2, cl_Table c, na_Table_names c, rfl, q, _, (3 : Nat), _, rfl, rfl, SqL.of h3, atI_nat h4, _, rfl, a, _, (y : Int), _, rfl, rfl, SqL.of h6, atI_nat h7, hQ b H (Same.refl _) h8⟩
abbrev N_action_line : List Str := ["table", "action", "words", "number"]
theorem sc_action_line : FnScope N_action_line ["table", "action"] (defScope s_action_line) := ⟨rfl, rfl, rfl, by decide +kernel, rfl, by decide +kernel, by decide +kernel⟩
theorem ok_action_line (c : Ctx K mg) : OkF P w K mg base (L2.CX P w) 3 "action_line" ["table", "action"] ((fun vs H Q _ => ∃ t q z a x, vs = [.ref t, .ref a] ∧ TbW H t q z ∧ ActAt H a x ∧ Wa z x ∧ RetN Q H (Vbndaa.printAction z x ++ [10]))) := by
  refine okF (f_action_line c) (g_action_line c) sc_action_line (fun _ _ _ _ _ _ us hl => match us, hl with | [_, _], _ => rfl) (fun vs H Q E h => by obtain ⟨t, q, z, a, x, rfl, h, ha, hw, hQ⟩ := h; rfl) fun cdv A outer s H vs Q E hr h => ⟨_, (pss_cons (ps_set (i := 2) sc_action_line.nd rfl (Or.inl rfl) (pe_lst (pa_cons (pe_ix (ix_listK (K := K) rfl) (pe_ix (ix_listK (K := K) rfl) (pe_fldK (K := K) rfl (pv 0)) (pgi (i_PLAYER c)) (fun _ _ => rfl)) (pe_fldK (K := K) rfl (pv 1)) (fun _ _ => rfl)) (pa_cons (pcall (E := E0) (ok_bytes_of c) (hr.mono (by decide)) passL (pa_cons (pe_ix (ix_tupK (K := K) rfl) (pgr (g_DEED_WORDS c)) (pe_fldK (K := K) rfl (pv 1)) (fun _ _ => rfl)) pa_nil)) pa_nil))))
      (pss_cons (ps_if (pt_cmpR op_eq (pe_fldK (K := K) rfl (pv 1)) (pgi (i_PERMITS c)) (nomark _)) (pss_cons (ps_expr (pe_bm PySem.F.plainAttrs_list PySem.F.slot_list_append PySem.F.type_list_append mt_append (pv 2) (pa_cons (pcall (E := E0) (ok_bytes_of c) (hr.mono (by decide)) passL (pa_cons (pe_callTy call_str_int (by rfl) (b_str c) (by decide +kernel) (pa_cons (pe_ix (ix_listK (K := K) rfl) (pe_fldK (K := K) rfl (pv 1)) pe_int (fun _ _ => rfl)) pa_nil)) pa_nil)) pa_nil)))
      (pss_one (ps_expr (pe_bm PySem.F.plainAttrs_list PySem.F.slot_list_extend PySem.F.type_list_extend mt_extend (pv 2) (pa_cons (pe_lst (pa_cons (pcall (E := E0) (ok_bytes_of c) (hr.mono (by decide)) passL (pa_cons pe_str pa_nil)) (pa_cons (pcall (E := E0) (ok_receiver_word c) (hr.mono (by decide)) passL (pa_cons (pv 0) (pa_cons (pe_ix (ix_listK (K := K) rfl) (pe_fldK (K := K) rfl (pv 1)) pe_int (fun _ _ => rfl)) pa_nil))) pa_nil))) pa_nil))))) (pss_one (ps_expr (pe_bm PySem.F.plainAttrs_list PySem.F.slot_list_extend PySem.F.type_list_extend mt_extend (pv 2) (pa_cons (pe_lc (g := gName 3) (own := [("number", 3)]) rfl sc_action_line.nd (pi_list (pe_fldK (K := K) rfl (pv 1))) (blkOk_by (own := [("number", 3)]) (N := N_action_line) (sc := defScope s_action_line) (by decide +kernel)) (fun _ _ _ _ _ => (pg_name (i := 3) sc_action_line.nd rfl (Or.inl rfl) (hf := Or.inr (by rfl)))) (fun _ _ _ _ _ => pts_nil) (fun _ _ _ _ _ => (pcall (E := E0) (ok_bytes_of c) (hr.mono (by decide)) passL (pa_cons (pe_callTy call_str_int (by rfl) (b_str c) (by decide +kernel) (pa_cons (pv 3) pa_nil)) pa_nil)))) pa_nil)))))
      (pss_one (ps_ret (pe_op op_cat (pcall (E := E0) (ok_line_of c) (hr.mono (by decide)) passL (pa_cons (pv 2) pa_nil)) (pe_lst (pa_cons (pgi (i_LINE_END c)) pa_nil))))))), ?_⟩
  obtain ⟨t, q, z, a, x, rfl, h, ha, hw, hQ⟩ := h
  obtain ⟨dx, bn, ha1, ha2⟩ := ha
  have hpl := hw.player
  obtain ⟨dx2, as, a3, h2, h3, h4, h5⟩ := h.kind (k := 3) rfl
  obtain ⟨xs, b0, h6, h7, h8⟩ := h5.get (getD_at (d := []) hpl)
  have hdk : deedOf x < 3 := by cases x <;> (simp only [deedOf]; omega)
  obtain ⟨zd, hd1, hd2, hd3⟩ := deedW_at hdk
  have haw := actW_ok h.wz hw
  have hjl : (Vbndaa.joinWithSpaces (actW z x)).length ≤ 900000 := by
    have h1 := join_le (m := 12) fun w hw => (haw w hw).2
    have h2 : (actW z x).length ≤ 60002 := by
      unfold actW
      cases x with
      | submit p o =>
        have := hw.2.2
        simp only [restW, List.length_cons, List.length_map]
        omega
      | grant p b to => simp [restW]
      | claim p b => simp [restW]
    omega
  have fin : ∀ (H1 : Hp) (W : Addr) (y : Option V), Same H H1 → LW H1 W (actW z x) → tRet (tOp rCat (tF spLineOf E0 (tCons (tVar 2) tNil)) (tLst (tCons (tC (.int 10)) tNil))) { nx := fun x H' => Q V.non H', rt := Q } [some (.ref t), some (.ref a), some (.ref W), y] H1 := fun H1 W y s1 hW => by
    refine ⟨_, rfl, W, _, rfl, hW, fun w hw => (haw w hw).1, by omega, fun p1 H2 s2 hp1 hv1 => ?_⟩
    refine ⟨by show 1 ≤ sizeLine; decide, fun p2 hp2 => ?_⟩
    have s3 := (s1.trans s2).trans (Same.new (o := .lst [.int 10]) hp2)
    rw [← actW_print] at hQ
    refine RetN.cat (ys := [10]) ((upd_ne (ne_of_none hv1 hp2)).trans hv1) upd_same (by show _ + 1 ≤ _; omega) s3 fun p3 H3 s4 _ hp3 hv3 => hQ p3 H3 s4 (s3.old hp3) hv3
  refine ⟨_, rfl, t, _, _, _, _, rfl, h2, cl_Table c, na_Table_names c, rfl, q, _, (3 : Nat), _, rfl, rfl, SqL.of h3, atI_nat h4, ?_⟩
  refine ⟨_, rfl, a, _, _, _, _, rfl, ha1, cl_Action c, na_Action_player c, rfl, a3, _, (Vbndaa.actingPlayer x : Int), _, rfl, rfl, SqL.of h6, atI_nat h7, ?_⟩
  refine ⟨_, rfl, a, _, _, _, _, rfl, ha1, cl_Action c, na_Action_deed c, rfl, t_DEED_WORDS, _, (deedOf x : Int), _, rfl, rfl, tp_421 c H, atI_nat hd1, zd, deedW.getD (deedOf x) [], rfl, hd2, by omega, fun a2 H1 s1 ha2n hv2 => ?_⟩
  refine ⟨by show 2 ≤ sizeLine; decide, fun W hW => ?_⟩
  have s2 := s1.trans (Same.new (o := .lst [.ref b0, .ref a2]) hW)
  have g1 := s2 _ _ ha1
  have hWH : H W = none := s1.old hW
  have l0 := s2 _ _ h8
  have l2 := Same.new (o := .lst [.ref b0, .ref a2]) hW _ _ hv2
  have b0W : b0 ≠ W := ne_of_none (s1 _ _ h8) hW
  have a2W : a2 ≠ W := ne_of_none hv2 hW
  have hnW : bn ≠ W := ne_of_none (s1 _ _ ha2) hW
  refine ⟨_, rfl, a, _, _, _, _, rfl, g1, cl_Action c, na_Action_deed c, rfl, rfl, _, rfl, ?_⟩
  -- the numbers' words
  have many : ∀ (ns : List Nat), numsOf x = (ns.map fun (n : Nat) => (n : Int)) → restW z x = ns.map Vbndaa.decimalBytes → (∀ n ∈ ns, n < 52) → ns.length ≤ 60000 → tDrop (tBM (cxOf (L2.CX P w) P w K mg base N_action_line (Str.ofString "action_line") (defScope s_action_line) a_action_line cdv A outer s H E).K "list" rExtend (tVar 2)
      (tCons (tLc (iList (cxOf (L2.CX P w) P w K mg base N_action_line (Str.ofString "action_line") (defScope s_action_line) a_action_line cdv A outer s H E).K (tFld K (tVar 1) "numbers")) (gName 3) tYes
        (tF spBytes E0 (tCons (tCB (fun xs H Q => ∃ i, xs = [V.int i] ∧ i.natAbs.log2 < 1920 ∧ Q (V.str (Str.ofString (toString i))) H) (tCons (tVar 3) tNil)) tNil)) (List.map (fun x => x.snd) [(Str.ofString "number", 3)])) tNil))
      { nx := fun σ H' => tRet (tOp rCat (tF spLineOf E0 (tCons (tVar 2) tNil)) (tLst (tCons (tC (.int 10)) tNil))) { nx := fun x H' => Q V.non H', rt := Q } σ H', rt := Q } [some (.ref t), some (.ref a), some (.ref W), none] (upd H1 W (.lst [.ref b0, .ref a2])) := fun ns e1 e2 hlt hnl => by
    rw [e1] at ha2
    have hnn := s2 _ _ ha2
    refine ⟨_, rfl, .inl ⟨rfl, _, SqL.of upd_same⟩, _, rfl, a, _, _, _, _, rfl, g1, cl_Action c, na_Action_numbers c, rfl, bn, rfl, ⟨_, SqL.of hnn⟩, fun D hD => ?_⟩
    refine lcR walk_list RW0 (fun i => (ns.take i).map Vbndaa.decimalBytes) rw0_mono hD rfl (fun H' s' => SqL.of (s' _ _ hnn)) (fun i y H3 H4 hi p y2 => ?_) (fun H' vs s' hd p => ?_)
    · obtain ⟨rfl, hy⟩ := y2
      obtain ⟨iz, hiz, rfl⟩ := map_at hy
      obtain ⟨n, hn, rfl⟩ := map_at hiz
      have hn52 := hlt n (List.mem_of_getElem? hn)
      refine ⟨rfl, _, rfl, _, rfl, log_small (n := n) (by omega), _, Vbndaa.decimalBytes n, rfl, dec_cps n, by have := dec_len (n := n) (by omega); omega, fun p5 H5 s5 hp5 hv5 => ?_⟩
      obtain ⟨_, _, vs0, hD0, _⟩ := id p
      refine p.yes rw0_mono s5 (e := Vbndaa.decimalBytes n) (by rw [take_succ hn, List.map_append]; rfl) ⟨p5, rfl, drp_at hv5 (by simpa using (ne_of_none hD0 hp5).symm)⟩ (by rw [List.length_map, List.length_take]; omega)
    · rw [List.length_map, List.length_map, List.take_of_length_le (Nat.le_refl _), ← e2] at p
      have DW : D ≠ W := (ne_of_none (H := upd H1 W (.lst [.ref b0, .ref a2])) upd_same hD).symm
      obtain ⟨us, g5, g6⟩ := lw_drp (lw_of hd p) DW (fun w hw => (haw w (by unfold actW; exact List.mem_cons_of_mem _ (List.mem_cons_of_mem _ hw))).1) (s' _ _ upd_same) (fun v hv => by
        simp only [List.mem_cons, List.not_mem_nil, or_false] at hv
        rcases hv with e | e <;> exact ⟨_, e⟩)
      refine ⟨W, D, _, _, rfl, rfl, s' _ _ upd_same, (drp_of g5).1, by rw [sizeLine_eq, List.length_map, g6.length, e2, List.length_map]; show 2 + _ ≤ _; omega, ?_⟩
      have s3 := s2.trans s'
      refine fin _ W none (s3.put hWH) ⟨b0 :: a2 :: us, upd_same, .cons ?_ (.cons ?_ ?_)⟩
      · exact (upd_ne b0W).trans (s3 _ _ h8)
      · exact (upd_ne a2W).trans (s' _ _ l2)
      · exact Paired.mono (fun b w hb => (upd_ne (by have := (drp_of hb).2; simpa using this)).trans (drp_of hb).1) g6
  cases x with
  | submit p o => exact iteF (many o rfl rfl hw.2.1 hw.2.2)
  | claim p b => exact iteF (many [b] rfl rfl (by simpa using hw.2) (by show 1 ≤ 60000; decide))
  | grant p b to =>
    have hn2 := s2 _ _ ha2
    have hb61 : b < 61 := by have := hw.2.1; omega
    refine iteT ⟨_, rfl, .inl ⟨rfl, _, SqL.of upd_same⟩, _, rfl, a, _, _, _, _, rfl, g1, cl_Action c, na_Action_numbers c, rfl, bn, _, (0 : Nat), _, rfl, rfl, SqL.of hn2, atI_nat rfl, _, rfl, log_small (n := b) (by omega), _, Vbndaa.decimalBytes b, rfl, dec_cps b, by have := dec_len hb61; omega, fun p5 H5 s5 hp5 hv5 => ?_⟩
    refine ⟨W, _, _, rfl, rfl, s5 _ _ upd_same, by rw [sizeLine_eq]; show 2 < _; omega, ?_⟩
    have p5W : p5 ≠ W := (ne_of_none (H := upd H1 W (.lst [.ref b0, .ref a2])) upd_same hp5).symm
    have s25 : Same H (upd H5 W (.lst ([.ref b0, .ref a2] ++ [.ref p5]))) := (s2.trans s5).put hWH
    refine ⟨_, rfl, .inl ⟨rfl, _, SqL.of upd_same⟩, _, Vbndaa.toBytes "to", rfl, ofString_cps _, by decide +kernel, fun p6 H6 s6 hp6 hv6 => ?_⟩
    have s26 := s25.trans s6
    have hto : ∀ y, to = some y → y < z.players.length := hw.2.2
    refine ⟨_, rfl, _, rfl, a, _, _, _, _, rfl, s26 _ _ ha1, cl_Action c, na_Action_numbers c, rfl, bn, _, (1 : Nat), _, rfl, rfl, SqL.of (s26 _ _ ha2), atI_nat rfl, t, q, z, to, rfl, h.same s26, hto, fun p7 H7 s7 hv7 => ?_⟩
    refine ⟨by show 2 ≤ sizeLine; decide, fun p8 hp8 => ?_⟩
    have s67 := s6.trans s7
    have s8 := s67.trans (Same.new (o := .lst [.ref p6, .ref p7]) hp8)
    have p8W : p8 ≠ W := (ne_of_none (s67 _ _ upd_same) hp8).symm
    refine ⟨W, p8, _, _, rfl, rfl, s8 _ _ upd_same, upd_same, by rw [sizeLine_eq]; show 3 + 2 ≤ _; omega, ?_⟩
    have p6W : p6 ≠ W := (ne_of_none (H := upd H5 W (.lst ([.ref b0, .ref a2] ++ [.ref p5]))) upd_same hp6).symm
    have rne : rcvT z to ≠ [] := (haw (rcvT z to) (by simp [actW, restW])).1
    have p7W : p7 ≠ W := fun e => by
      have h1 : H7 W = some (.lst ([.ref b0, .ref a2] ++ [.ref p5])) := s67 _ _ upd_same
      have hv7' : H7 p7 = some _ := hv7
      rw [e, h1] at hv7'
      have e3 := HO.lst.inj (Option.some.inj hv7')
      cases hr : rcvT z to with
      | nil => exact rne hr
      | cons n w =>
        rw [hr] at e3
        cases e3
    have s28 := s25.trans s8
    refine fin _ W none (s28.put hWH) ⟨[b0, a2, p5, p6, p7], upd_same, .cons ?_ (.cons ?_ (.cons ?_ (.cons ?_ (.cons ?_ .nil))))⟩
    · exact (upd_ne b0W).trans (s28 _ _ h8)
    · exact (upd_ne a2W).trans (s8 _ _ ((upd_ne a2W).trans (s5 _ _ l2)))
    · exact (upd_ne p5W).trans (s8 _ _ ((upd_ne p5W).trans hv5))
    · exact (upd_ne p6W).trans ((upd_ne (ne_of_none (s7 _ _ hv6) hp8)).trans (s7 _ _ hv6))
    · exact (upd_ne p7W).trans ((upd_ne (ne_of_none hv7 hp8)).trans hv7)
end

end VD
namespace VD
open PySem PySem.Spec PyProof.Rows L2
abbrev playO (dx t l g o ac : Addr) : HO := .ins c_Play dx [("table", .ref t), ("layers", .ref l), ("grants", .ref g), ("owners", .ref o), ("actions", .ref ac)]
/-- a layer: None, or a list of numbers -/
def RLay (H : Hp) (v : V) : Option (List Nat) → Prop
  | none => v = .non
  | some w => ∃ a, v = .ref a ∧ LN H a w
theorem rlay_mono : ∀ (H H' : Hp) (v : V) (e : Option (List Nat)), Same H H' → RLay H v e → RLay H' v e := fun _ _ _ e s h => by
  cases e with
  | none => exact h
  | some w =>
    obtain ⟨a, h1, h2⟩ := h
    exact ⟨a, h1, s _ _ h2⟩
def RGr (H : Hp) (v : V) (x : Vbndaa.Grant) : Prop := ∃ T, v = .ref T ∧ H T = some (.tup [nv x.player, nv x.position, .int (rcvI x.recipient)])
theorem rgr_mono : ∀ (H H' : Hp) (v : V) (e : Vbndaa.Grant), Same H H' → RGr H v e → RGr H' v e := fun _ _ _ _ s ⟨T, h1, h2⟩ => ⟨T, h1, s _ _ h2⟩
def ow : Option Nat → Int
  | none => 0
  | some p => (p : Int) + 1
/-- the play's object at p; the four lists of ms may be written -/
structure PlayAt (H : Hp) (p t q l g o ac : Addr) (h : Vbndaa.Session) : Prop where
  nd : [l, g, o, ac].Nodup
  at_ : ∃ dx, drp H [l, g, o, ac] p = some (playO dx t l g o ac)
  tab : TbW (drp H [l, g, o, ac]) t q h.room.table
  lay : ∃ vs, H l = some (.lst vs) ∧ Paired (RLay (drp H [l, g, o, ac])) vs h.room.permutations
  grs : ∃ vs, H g = some (.lst vs) ∧ Paired (RGr (drp H [l, g, o, ac])) vs h.room.grants
  own : LI H o (h.room.owners.map ow)
  act : ∃ vs, H ac = some (.lst vs) ∧ Paired (RAct (drp H [l, g, o, ac])) vs h.actions
theorem PlayAt.same {H H' : Hp} {p t q l g o ac : Addr} {h : Vbndaa.Session} (s : Same H H') (x : PlayAt H p t q l g o ac h) : PlayAt H' p t q l g o ac h := by
  have d := But.drp (s.but [l, g, o, ac])
  obtain ⟨dx, h1⟩ := x.at_
  obtain ⟨v1, h2, h3⟩ := x.lay
  obtain ⟨v2, h4, h5⟩ := x.grs
  obtain ⟨v3, h6, h7⟩ := x.act
  exact ⟨x.nd, ⟨dx, d _ _ h1⟩, x.tab.same d, ⟨v1, s _ _ h2, Paired.mono (fun v e => rlay_mono _ _ v e d) h3⟩, ⟨v2, s _ _ h4, Paired.mono (fun v e => rgr_mono _ _ v e d) h5⟩, s _ _ x.own, ⟨v3, s _ _ h6, Paired.mono (fun v e => ract_mono _ _ v e d) h7⟩⟩
theorem PlayAt.obj {H : Hp} {p t q l g o ac : Addr} {h : Vbndaa.Session} (x : PlayAt H p t q l g o ac h) : ∃ dx, H p = some (playO dx t l g o ac) := by
  obtain ⟨dx, h1⟩ := x.at_
  exact ⟨dx, (drp_of h1).1⟩
theorem PlayAt.tb {H : Hp} {p t q l g o ac : Addr} {h : Vbndaa.Session} (x : PlayAt H p t q l g o ac h) : TbW H t q h.room.table := x.tab.same drp_same
/-- what holds of a session -/
structure Wh (m : Nat) (h : Vbndaa.Session) : Prop where
  tab : Wt h.room.table
  perms : h.room.permutations.length = h.room.table.players.length
  perm : ∀ w, some w ∈ h.room.permutations → Vbndaa.isPermutation (Vbndaa.cardCount h.room.table) w = true
  owns : h.room.owners.length = Vbndaa.cardCount h.room.table
  grs : h.room.grants.length ≤ m
  grx : ∀ x ∈ h.room.grants, x.player < h.room.table.players.length ∧ x.position < Vbndaa.cardCount h.room.table
  acts : h.actions.length ≤ m
  wa : ∀ x ∈ h.actions, Wa h.room.table x
  log : Vbndaa.applyActions (Vbndaa.newRoom h.room.table) h.actions = h.room
  ok : Vbndaa.firstInvalidAction 0 (Vbndaa.newRoom h.room.table) h.actions = none
def newS (z : Vbndaa.Table) : Vbndaa.Session := ⟨Vbndaa.newRoom z, []⟩
theorem wh_new {z : Vbndaa.Table} (h : Wt z) : Wh 0 (newS z) := by
  refine ⟨h, ?_, fun w hw => ?_, ?_, Nat.zero_le _, fun x hx => ?_, Nat.zero_le _, fun x hx => ?_, rfl, rfl⟩
  · show (z.players.map fun _ => none).length = _
    rw [List.length_map]
    rfl
  · have hw : some w ∈ z.players.map fun _ => (none : Option Vbndaa.Permutation) := hw
    obtain ⟨_, _, e⟩ := List.mem_map.mp hw
    cases e
  · show ((Vbndaa.identityPermutation (Vbndaa.cardCount z)).map fun _ => none).length = _
    rw [List.length_map]
    show (List.range _).length = _
    rw [List.length_range]
    rfl
  · cases hx
  · cases hx
theorem rep_flat (v : V) : ∀ n, (List.replicate n [v]).flatten = List.replicate n v
  | 0 => rfl
  | n + 1 => by rw [List.replicate_succ, List.flatten_cons, rep_flat v n]; rfl
theorem new_drp {H H' : Hp} {ms ps : List Addr} (b : But ps H H') (n : ∀ m ∈ ms, H m = none) : Same (drp H ps) (drp H' ms) := fun a o e => by
  obtain ⟨h1, h2⟩ := drp_of e
  exact drp_at (b a o h1 h2) fun q => by rw [n a q] at h1; cases h1
theorem LW.off {H : Hp} {p a : Addr} {ws : List (List Nat)} (h : LW H a ws) (hp : ∀ xs, H p ≠ some (.lst xs)) : LW (drp H [p]) a ws := by
  obtain ⟨as, h1, h2⟩ := h
  exact ⟨as, drp_at h1 (by simp only [List.mem_singleton]; exact fun e => hp _ (e ▸ h1)), Paired.mono (fun b w hb => drp_at hb (by simp only [List.mem_singleton]; exact fun e => hp _ (e ▸ hb))) h2⟩
theorem drp_comm {H : Hp} {ms ps : List Addr} : drp (drp H ms) ps = drp (drp H ps) ms := by
  funext b
  unfold drp
  by_cases e : b ∈ ms <;> by_cases e2 : b ∈ ps <;> simp [e, e2]
theorem TbW.off {H : Hp} {p t q : Addr} {z : Vbndaa.Table} (h : TbW H t q z) (hp : ∃ dx fs, H p = some (.ins c_Play dx fs)) : TbW (drp H [p]) t q z := by
  obtain ⟨w, n, dx, h1, as, h2, h3⟩ := h
  obtain ⟨dx2, fs, hp⟩ := hp
  have nt : t ∉ [p] := by
    simp only [List.mem_singleton]
    intro e
    rw [e, hp] at h1
    cases h1
  have nq : q ∉ [p] := by
    simp only [List.mem_singleton]
    intro e
    rw [e, hp] at h2
    cases h2
  refine ⟨w, n, dx, drp_at h1 nt, as, drp_at h2 nq, Paired.mono (fun a ws h => ?_) h3⟩
  rw [drp_comm]
  exact h.off fun xs e => by
    have := (drp_of e).1
    rw [hp] at this
    cases this
theorem drp_none {H : Hp} {ms : List Addr} (h : ∀ m ∈ ms, H m = none) : Same H (drp H ms) := fun b o e => drp_at e fun q => by
  rw [h b q] at e
  cases e
section
variable {P : Program} {w : World} {K : PySem.W.Frag} {mg : Str → Option Value} {base : Heap}
abbrev N_Play_init : List Str := ["self", "table"]
theorem sc_Play_init : FnScope N_Play_init ["self", "table"] (defScope s_Play_init) := ⟨rfl, rfl, rfl, by decide +kernel, rfl, by decide +kernel, by decide +kernel⟩
theorem ok_Play_init (c : Ctx K mg) : OkC P w K mg base (L2.CX P w) 5 "Play" c_Play ["self", "table"] ((fun vs H Q _ => ∃ p dx t q z, vs = [.ref p, .ref t] ∧ H p = some (.ins c_Play dx []) ∧ TbW H t q z ∧ Wt z ∧ ∀ H' l g o ac, But [p] H H' → (∀ m ∈ [l, g, o, ac], H m = none) → PlayAt H' p t q l g o ac (newS z) → Q .non H')) := by
  refine okC (f_Play_init c) (mk_Play c) (g_Play c) sc_Play_init (fun _ _ _ _ _ _ us hl => match us, hl with | [_, _], _ => rfl) (fun vs H Q E h => by obtain ⟨p, dx, t, q, z, rfl, hp, ht, hz, k⟩ := h; rfl) fun cdv A outer s H vs Q E hr h => ⟨_, (pss_cons (ps_fld (pv 0) (pv 1) rfl)
      (pss_cons (ps_fld (pv 0) (pe_op op_rep (pe_lst (pa_cons pe_non pa_nil)) (pmeth0 (E := E0) (ok_Table_player_count c) (pv 1) (hr.mono (by decide)) passL)) rfl)
      (pss_cons (ps_fld (pv 0) (pe_lst pa_nil) rfl)
      (pss_cons (ps_fld (pv 0) (pe_op op_rep (pe_lst (pa_cons pe_int pa_nil)) (pmeth0 (E := E0) (ok_Table_card_count c) (pv 1) (hr.mono (by decide)) passL)) rfl)
      (pss_one (ps_fld (pv 0) (pe_lst pa_nil) rfl)))))), ?_⟩
  obtain ⟨p, dx, t, q, z, rfl, hp, ht, hz, k⟩ := h
  have off := ht.off ⟨dx, [], hp⟩
  have tb : ∀ {H' : Hp}, But [p] H H' → TbW H' t q z := fun b => (off.same b.drp).same drp_same
  obtain ⟨_, _, _, w4, _⟩ := ht.wz
  obtain ⟨_, hds, _⟩ := id hz
  have old : ∀ {H' : Hp} {m : Addr} {u : HO}, But [p] H H' → H' p = some u → H' m = none → H m = none := fun {H' m u} b hp' hm => by
    cases e : H m with
    | none => rfl
    | some u =>
      have := b m u e (by
        simp only [List.mem_singleton]
        exact (ne_of_none hp' hm).symm)
      rw [this] at hm
      cases hm
  refine ⟨_, rfl, _, rfl, p, _, _, _, rfl, hp, cl_Play c, na_Play_table c, by show 0 < 1000; decide, ?_⟩
  have b1 : But [p] H (upd H p (.ins c_Play dx [("table", .ref t)])) := ((Same.refl H).but _).put (by simp)
  have p1 : (upd H p (.ins c_Play dx [("table", .ref t)])) p = some (.ins c_Play dx [("table", .ref t)]) := upd_same
  show (fun H1 => _) (upd H p (.ins c_Play dx [("table", .ref t)]))
  generalize upd H p (.ins c_Play dx [("table", .ref t)]) = H1 at b1 p1
  refine ⟨by show 1 ≤ sizeLine; decide, fun a0 ha0 => ?_⟩
  have sa := Same.new (o := .lst [.non]) ha0
  have b2 := b1.trans (sa.but [p])
  have p2 := sa _ _ p1
  have a02 : upd H1 a0 (.lst [.non]) a0 = some (.lst [.non]) := upd_same
  generalize upd H1 a0 (.lst [.non]) = H2 at sa b2 p2 a02 ⊢
  obtain ⟨_, _, dxt2, ht2, _⟩ := id (tb b2)
  refine ⟨_, rfl, t, _, _, rfl, ht2, rfl, t, q, z, rfl, tb b2, a0, _, _, rfl, rfl, a02, by omega, by omega, by rw [sizeLine_eq, Int.toNat_natCast]; show 1 * _ ≤ _; omega, fun l hl => ?_⟩
  rw [rep_flat, Int.toNat_natCast]
  have sb := Same.new (o := .lst (List.replicate z.players.length V.non)) hl
  have b3 := b2.trans (sb.but [p])
  have p3 := sb _ _ p2
  have l3 : upd H2 l (.lst (List.replicate z.players.length V.non)) l = some (.lst (List.replicate z.players.length V.non)) := upd_same
  have lp : l ≠ p := (ne_of_none p2 hl).symm
  have hlH : H l = none := old b2 p2 hl
  generalize upd H2 l (.lst (List.replicate z.players.length V.non)) = H3 at sb b3 p3 l3 ⊢
  refine ⟨_, rfl, p, _, _, _, rfl, p3, cl_Play c, na_Play_layers c, by show 1 < 1000; decide, ?_⟩
  show (fun H1 => _) (upd H3 p (.ins c_Play dx [("table", .ref t), ("layers", .ref l)]))
  have b4 : But [p] H (upd H3 p (.ins c_Play dx [("table", .ref t), ("layers", .ref l)])) := b3.put (by simp)
  have p4 : (upd H3 p (.ins c_Play dx [("table", .ref t), ("layers", .ref l)])) p = some (.ins c_Play dx [("table", .ref t), ("layers", .ref l)]) := upd_same
  have l4 : (upd H3 p (.ins c_Play dx [("table", .ref t), ("layers", .ref l)])) l = _ := (upd_ne lp).trans l3
  generalize upd H3 p (.ins c_Play dx [("table", .ref t), ("layers", .ref l)]) = H4 at b4 p4 l4 ⊢
  refine ⟨Nat.zero_le _, fun g hg => ?_⟩
  have sg := Same.new (o := .lst []) hg
  have b5 := b4.trans (sg.but [p])
  have p5 := sg _ _ p4
  have l5 := sg _ _ l4
  have g5 : upd H4 g (.lst []) g = some (.lst []) := upd_same
  have gp : g ≠ p := (ne_of_none p4 hg).symm
  have gl : l ≠ g := ne_of_none l4 hg
  have hgH : H g = none := old b4 p4 hg
  generalize upd H4 g (.lst []) = H5 at sg b5 p5 l5 g5 ⊢
  refine ⟨_, rfl, p, _, _, _, rfl, p5, cl_Play c, na_Play_grants c, by show 2 < 1000; decide, ?_⟩
  show (fun H1 => _) (upd H5 p (.ins c_Play dx [("table", .ref t), ("layers", .ref l), ("grants", .ref g)]))
  have b6 : But [p] H (upd H5 p (.ins c_Play dx [("table", .ref t), ("layers", .ref l), ("grants", .ref g)])) := b5.put (by simp)
  have p6 : (upd H5 p (.ins c_Play dx [("table", .ref t), ("layers", .ref l), ("grants", .ref g)])) p = some (.ins c_Play dx [("table", .ref t), ("layers", .ref l), ("grants", .ref g)]) := upd_same
  have l6 : (upd H5 p (.ins c_Play dx [("table", .ref t), ("layers", .ref l), ("grants", .ref g)])) l = _ := (upd_ne lp).trans l5
  have g6 : (upd H5 p (.ins c_Play dx [("table", .ref t), ("layers", .ref l), ("grants", .ref g)])) g = _ := (upd_ne gp).trans g5
  generalize upd H5 p (.ins c_Play dx [("table", .ref t), ("layers", .ref l), ("grants", .ref g)]) = H6 at b6 p6 l6 g6 ⊢
  refine ⟨by show 1 ≤ sizeLine; decide, fun e0 he0 => ?_⟩
  have se := Same.new (o := .lst [.int 0]) he0
  have b7 := b6.trans (se.but [p])
  have p7 := se _ _ p6
  have l7 := se _ _ l6
  have g7 := se _ _ g6
  have e07 : upd H6 e0 (.lst [.int 0]) e0 = some (.lst [.int 0]) := upd_same
  generalize upd H6 e0 (.lst [.int 0]) = H7 at se b7 p7 l7 g7 e07 ⊢
  obtain ⟨_, _, dxt7, ht7, _⟩ := id (tb b7)
  refine ⟨_, rfl, t, _, _, rfl, ht7, rfl, t, q, z, rfl, tb b7, e0, _, _, rfl, rfl, e07, by omega, by omega, by rw [sizeLine_eq, Int.toNat_natCast]; show 1 * _ ≤ _; omega, fun o ho => ?_⟩
  rw [rep_flat, Int.toNat_natCast]
  have so := Same.new (o := .lst (List.replicate (Vbndaa.deckSize z.deck) (V.int 0))) ho
  have b8 := b7.trans (so.but [p])
  have p8 := so _ _ p7
  have l8 := so _ _ l7
  have g8 := so _ _ g7
  have o8 : upd H7 o (.lst (List.replicate (Vbndaa.deckSize z.deck) (V.int 0))) o = some (.lst (List.replicate (Vbndaa.deckSize z.deck) (V.int 0))) := upd_same
  have op : o ≠ p := (ne_of_none p7 ho).symm
  have ol : l ≠ o := ne_of_none l7 ho
  have og : g ≠ o := ne_of_none g7 ho
  have hoH : H o = none := old b7 p7 ho
  generalize upd H7 o (.lst (List.replicate (Vbndaa.deckSize z.deck) (V.int 0))) = H8 at so b8 p8 l8 g8 o8 ⊢
  refine ⟨_, rfl, p, _, _, _, rfl, p8, cl_Play c, na_Play_owners c, by show 3 < 1000; decide, ?_⟩
  show (fun H1 => _) (upd H8 p (.ins c_Play dx [("table", .ref t), ("layers", .ref l), ("grants", .ref g), ("owners", .ref o)]))
  have b9 : But [p] H (upd H8 p (.ins c_Play dx [("table", .ref t), ("layers", .ref l), ("grants", .ref g), ("owners", .ref o)])) := b8.put (by simp)
  have p9 : (upd H8 p (.ins c_Play dx [("table", .ref t), ("layers", .ref l), ("grants", .ref g), ("owners", .ref o)])) p = some (.ins c_Play dx [("table", .ref t), ("layers", .ref l), ("grants", .ref g), ("owners", .ref o)]) := upd_same
  have l9 : (upd H8 p (.ins c_Play dx [("table", .ref t), ("layers", .ref l), ("grants", .ref g), ("owners", .ref o)])) l = _ := (upd_ne lp).trans l8
  have g9 : (upd H8 p (.ins c_Play dx [("table", .ref t), ("layers", .ref l), ("grants", .ref g), ("owners", .ref o)])) g = _ := (upd_ne gp).trans g8
  have o9 : (upd H8 p (.ins c_Play dx [("table", .ref t), ("layers", .ref l), ("grants", .ref g), ("owners", .ref o)])) o = _ := (upd_ne op).trans o8
  generalize upd H8 p (.ins c_Play dx [("table", .ref t), ("layers", .ref l), ("grants", .ref g), ("owners", .ref o)]) = H9 at b9 p9 l9 g9 o9 ⊢
  refine ⟨Nat.zero_le _, fun ac hac => ?_⟩
  have sc := Same.new (o := .lst []) hac
  have b10 := b9.trans (sc.but [p])
  have p10 := sc _ _ p9
  have l10 := sc _ _ l9
  have g10 := sc _ _ g9
  have o10 := sc _ _ o9
  have c10 : upd H9 ac (.lst []) ac = some (.lst []) := upd_same
  have cp : ac ≠ p := (ne_of_none p9 hac).symm
  have cl : l ≠ ac := ne_of_none l9 hac
  have cg : g ≠ ac := ne_of_none g9 hac
  have co : o ≠ ac := ne_of_none o9 hac
  have hcH : H ac = none := old b9 p9 hac
  generalize upd H9 ac (.lst []) = H10 at sc b10 p10 l10 g10 o10 c10 ⊢
  refine ⟨_, rfl, p, _, _, _, rfl, p10, cl_Play c, na_Play_actions c, by show 4 < 1000; decide, ?_⟩
  show (fun H1 => _) (upd H10 p (playO dx t l g o ac))
  have b11 : But [p] H (upd H10 p (playO dx t l g o ac)) := b10.put (by simp)
  have hn : ∀ m ∈ [l, g, o, ac], H m = none := by
    intro m hm
    simp only [List.mem_cons, List.not_mem_nil, or_false] at hm
    rcases hm with e | e | e | e <;> rw [e] <;> assumption
  refine k _ l g o ac b11 hn ⟨by simp [gl, ol, cl, og, cg, co], ⟨dx, drp_at upd_same (by simp [lp.symm, gp.symm, op.symm, cp.symm])⟩, off.same (new_drp b11 hn), ⟨_, (upd_ne lp).trans l10, ?_⟩, ⟨_, (upd_ne gp).trans g10, .nil⟩, ?_, ⟨_, (upd_ne cp).trans c10, .nil⟩⟩
  · show Paired _ _ (z.players.map fun _ => none)
    rw [List.map_const']
    exact pr_rep (F := RLay _) (show RLay _ V.non none from rfl) _
  · show upd _ p _ o = some (.lst (((List.map (fun _ => none) (List.range (Vbndaa.deckSize z.deck))).map ow).map V.int))
    rw [List.map_const', List.length_range, List.map_replicate, List.map_replicate]
    exact (upd_ne op).trans o10
end

end VD
namespace VD
open PySem PySem.Spec PyProof.Rows L2
section
variable {P : Program} {w : World} {K : PySem.W.Frag} {mg : Str → Option Value} {base : Heap}
abbrev N_Play_all_laid : List Str := ["self", "row"]
theorem sc_Play_all_laid : FnScope N_Play_all_laid ["self"] (defScope s_Play_all_laid) := ⟨rfl, rfl, rfl, by decide +kernel, rfl, by decide +kernel, by decide +kernel⟩
theorem ok_Play_all_laid (c : Ctx K mg) : OkM P w K mg base (L2.CX P w) 1 c_Play "all_laid" ["self"] ((fun vs H Q _ => ∃ p t q l g o ac h, vs = [.ref p] ∧ PlayAt H p t q l g o ac h ∧ h.room.permutations.length ≤ 1000 ∧ RetV Q H (.bl (Vbndaa.allSubmitted h.room)))) := by
  refine okM (f_Play_all_laid c) (me_Play_all_laid c) (cl_Play c) sc_Play_all_laid (fun _ _ _ _ _ _ us hl => match us, hl with | [_], _ => rfl) (fun vs H Q E h => by obtain ⟨p, t, q, l, g, o, ac, h, rfl, hp, hz, hQ⟩ := h; rfl) fun cdv A outer s H vs Q E hr h => ⟨_, (pss_one (ps_ret (pe_cmpR op_eq (pe_callB (lenK (K := K) rfl) (by rfl) (b_len c) boot_len (pa_cons (pe_lc (g := gName 1) (own := [("row", 1)]) rfl sc_Play_all_laid.nd (pi_list (pe_fldK (K := K) rfl (pv 0))) (blkOk_by (own := [("row", 1)]) (N := N_Play_all_laid) (sc := defScope s_Play_all_laid) (by decide +kernel)) (fun _ _ _ _ _ => (pg_name (i := 1) sc_Play_all_laid.nd rfl (Or.inl rfl) (hf := Or.inr (by rfl)))) (fun _ _ _ _ _ => pts_one (pt_cmpR op_isN (pv 1) pe_non (nomark _))) (fun _ _ _ _ _ => (pv 1))) pa_nil)) pe_int (nomark _)))), ?_⟩
  obtain ⟨p, t, q, l, g, o, ac, h, rfl, hp, hz, hQ⟩ := h
  obtain ⟨dx, h1⟩ := hp.obj
  obtain ⟨us, h2, h3⟩ := hp.lay
  refine ⟨_, rfl, p, _, _, _, _, rfl, h1, cl_Play c, na_Play_layers c, rfl, l, rfl, ⟨_, SqL.of h2⟩, fun D hD => ?_⟩
  refine lcR walk_list (fun _ v (e : Option (List Nat)) => True) (fun i => (h.room.permutations.take i).filter fun o => o.isNone) (fun _ _ _ _ _ h => h) hD rfl (fun H' s' => SqL.of (s' _ _ h2)) (fun i x H2 H3 hi y q => ?_) (fun H' vs s' hd y => ?_)
  · obtain ⟨rfl, hx⟩ := q
    obtain ⟨e, he, hr⟩ := pr_get h3 hx
    refine ⟨rfl, _, rfl, rfl, _, rfl, ?_⟩
    cases e with
    | none =>
      have hr : x = .non := hr
      subst hr
      exact iteT ⟨_, rfl, y.yes (fun _ _ _ _ _ h => h) (Same.refl _) (e := none) (by rw [take_succ he, List.filter_append, List.filter_cons_of_pos (by rfl)]; rfl) trivial (Nat.lt_of_le_of_lt (List.length_filter_le _ _) (by rw [List.length_take]; omega))⟩
    | some wd =>
      obtain ⟨a, rfl, _⟩ := hr
      refine ite2 (fun e => absurd (of_decide_eq_true e) (fun e => by cases e)) (fun _ => y.no (fun _ _ _ _ _ h => h) (Same.refl _) (by rw [take_succ he, List.filter_append, List.filter_cons_of_neg (by simp), List.filter_nil, List.append_nil]))
  · have hl := y.length
    rw [h3.length, List.take_of_length_le (Nat.le_refl _)] at hl
    refine ⟨D, _, rfl, .inl (SqL.of hd), rfl, ?_⟩
    have e : decide (V.int (vs.length : Int) = V.int 0) = Vbndaa.allSubmitted h.room := by
      rw [Bool.eq_iff_iff, decide_eq_true_iff]
      unfold Vbndaa.allSubmitted
      rw [List.all_eq_true]
      constructor
      · intro e x hx
        have e0 : vs.length = 0 := nv_inj (b := 0) e
        rw [e0] at hl
        have en := List.eq_nil_of_length_eq_zero hl.symm
        cases x with
        | some w => rfl
        | none => exact absurd (List.mem_filter.mpr ⟨hx, rfl⟩) (by rw [en]; simp)
      · intro hall
        have en : (h.room.permutations.filter fun o => o.isNone) = [] := List.filter_eq_nil_iff.mpr fun a ha => by
          have := hall a ha
          cases a with
          | some w => simp
          | none => cases this
        rw [en] at hl
        rw [hl]
        rfl
    rw [e]
    exact hQ H' s'
/-- whether a grant stands, to one player or to all -/
def hasG (r : Vbndaa.Room) (p b : Nat) (to : Int) : Bool := r.grants.any fun x => x.player == p && (x.position == b && (x.recipient == none || decide (rcvI x.recipient = to)))
def dg (p b : Nat) (to : Int) : PyData := .tuple [dn p, dn b, .int to]
theorem eqv_dg (p b p' b' : Nat) (t t' : Int) : PyData.eqv (dg p b t) (dg p' b' t') = (decide (p = p') && (decide (b = b') && decide (t = t'))) := by
  show PyData.eqvAll [dn p, dn b, .int t] [dn p', dn b', .int t'] = _
  show (PyData.eqv (dn p) (dn p') && (PyData.eqv (dn b) (dn b') && (PyData.eqv (.int t) (.int t') && true))) = _
  rw [eqv_dn, eqv_dn, Bool.and_true]
  have e : PyData.eqv (.int t) (.int t') = decide (t = t') := by
    show (t == t') = _
    rw [Bool.eq_iff_iff, beq_iff_eq, decide_eq_true_iff]
  rw [e]
  congr 1
theorem sh_dg (p b : Nat) (to : Int) : SeqAt.shaped (dg p b to) = true := by
  refine shaped_of rfl ?_
  simp [dg, dn, PyData.depth, PyData.depthAll]
theorem sh_dgs (l : List PyData) (h : ∀ d ∈ l, ∃ p b to, d = dg p b to) : SeqAt.shaped (.list l) = true := by
  have lay : ∀ l : List PyData, (∀ d ∈ l, ∃ p b to, d = dg p b to) → PyData.canLayAll0 l = true := fun l => by
    induction l with
    | nil => exact fun _ => rfl
    | cons d r ih =>
      intro h
      obtain ⟨p, b, to, rfl⟩ := h d (by simp)
      show (PyData.canLay0 (dg p b to) && PyData.canLayAll0 r) = true
      rw [ih fun d hd => h d (by simp [hd])]
      rfl
  have dep : ∀ l : List PyData, (∀ d ∈ l, ∃ p b to, d = dg p b to) → PyData.depthAll l ≤ 2 := fun l => by
    induction l with
    | nil => exact fun _ => by simp [PyData.depthAll]
    | cons d r ih =>
      intro h
      obtain ⟨p, b, to, rfl⟩ := h d (by simp)
      have := ih fun d hd => h d (by simp [hd])
      have h2 : (dg p b to).depth ≤ 2 := by simp [dg, dn, PyData.depth, PyData.depthAll]
      simp only [PyData.depthAll]
      omega
  refine shaped_of ?_ ?_
  · simp only [PyData.canLay0]
    exact lay l h
  · have := dep l h
    simp only [PyData.depth]
    omega
theorem dp_gr {H : Hp} : ∀ {vs : List V} {xs : List Vbndaa.Grant}, Paired (RGr H) vs xs → DpAll K H vs (xs.map fun x => dg x.player x.position (rcvI x.recipient))
  | _, _, .nil => .nil
  | _, _, .cons ⟨T, e, h⟩ t => by
    subst e
    exact .cons (.tup (SqT.of h) (.cons (.int _) (.cons (.int _) (.cons (.int _) .nil)))) (dp_gr t)
theorem any_gr (xs : List Vbndaa.Grant) (p b : Nat) (to : Int) : ((xs.map fun x => dg x.player x.position (rcvI x.recipient)).any fun z => PyData.eqv z (dg p b to)) = xs.any fun x => x.player == p && (x.position == b && decide (rcvI x.recipient = to)) := by
  rw [List.any_map]
  congr 1
  funext x
  show PyData.eqv _ _ = _
  rw [eqv_dg]
  rfl
theorem hasG_eq (r : Vbndaa.Room) (p b : Nat) (to : Int) : hasG r p b to = ((r.grants.any fun x => x.player == p && (x.position == b && decide (rcvI x.recipient = to))) || r.grants.any fun x => x.player == p && (x.position == b && decide (rcvI x.recipient = -1))) := by
  unfold hasG
  induction r.grants with
  | nil => rfl
  | cons x l ih =>
    rw [List.any_cons, List.any_cons, List.any_cons, ih]
    have e : decide (rcvI x.recipient = -1) = (x.recipient == none) := by
      cases x.recipient with
      | none => rfl
      | some y =>
        rw [Bool.eq_iff_iff, decide_eq_true_iff]
        constructor
        · intro h
          have h : (y : Int) = -1 := h
          omega
        · intro h
          cases h
    rw [e]
    cases (x.player == p) <;> cases (x.position == b) <;> cases (x.recipient == none) <;> cases decide (rcvI x.recipient = to) <;> simp
abbrev N_Play_has_granted : List Str := ["self", "giver", "position", "receiver"]
theorem sc_Play_has_granted : FnScope N_Play_has_granted ["self", "giver", "position", "receiver"] (defScope s_Play_has_granted) := ⟨rfl, rfl, rfl, by decide +kernel, rfl, by decide +kernel, by decide +kernel⟩
theorem ok_Play_has_granted (c : Ctx K mg) : OkM P w K mg base (L2.CX P w) 1 c_Play "has_granted" ["self", "giver", "position", "receiver"] ((fun vs H Q _ => ∃ p t q l g o ac h i b to, vs = [.ref p, nv i, nv b, .int to] ∧ PlayAt H p t q l g o ac h ∧ RetV Q H (.bl (hasG h.room i b to)))) := by
  refine okM (f_Play_has_granted c) (me_Play_has_granted c) (cl_Play c) sc_Play_has_granted (fun _ _ _ _ _ _ us hl => match us, hl with | [_, _, _, _], _ => rfl) (fun vs H Q E h => by obtain ⟨p, t, q, l, g, o, ac, h, i, b, to, rfl, hp, hQ⟩ := h; rfl) fun cdv A outer s H vs Q E hr h => ⟨_, (pss_one (ps_ret (pe_or (pe_cmpR (inDK (K := K) rfl (hu65 hr)) (pe_tup (pa_cons (pv 1) (pa_cons (pv 2) (pa_cons (pv 3) pa_nil)))) (pe_fldK (K := K) rfl (pv 0)) (by rfl)) (pe_one (pe_cmpR (inDK (K := K) rfl (hu65 hr)) (pe_tup (pa_cons (pv 1) (pa_cons (pv 2) (pa_cons (pgi (i_EVERYBODY c)) pa_nil)))) (pe_fldK (K := K) rfl (pv 0)) (by rfl)))))), ?_⟩
  obtain ⟨p, t, q, l, g, o, ac, h, i, b, to, rfl, hp, hQ⟩ := h
  rw [hasG_eq] at hQ
  have one : ∀ (H1 : Hp) (T : Addr) (to : Int), PlayAt H1 p t q l g o ac h → H1 T = some (.tup [nv i, nv b, .int to]) → ∀ {Q' : VK}, Q' (.bl (h.room.grants.any fun x => x.player == i && (x.position == b && decide (rcvI x.recipient = to)))) H1 →
      rInD K (.ref T) (.ref g) H1 Q' := fun H1 T to hp1 hT Q' hq => by
    obtain ⟨vs, h4, h5⟩ := hp1.grs
    refine ⟨dg i b to, _, .tup (SqT.of hT) (.cons (.int _) (.cons (.int _) (.cons (.int _) .nil))), .lst (SqL.of h4) (dp_gr (Paired.mono (fun v e => rgr_mono _ _ v e drp_same) h5)), sh_dg _ _ _, sh_dgs _ (fun d hd => ?_), ?_⟩
    · obtain ⟨x, _, rfl⟩ := List.mem_map.mp hd
      exact ⟨_, _, _, rfl⟩
    · rw [any_gr]
      exact hq
  obtain ⟨dx, h1⟩ := hp.obj
  refine ⟨_, rfl, _, rfl, _, rfl, by show 3 ≤ sizeLine; decide, fun T hT => ?_⟩
  have s1 := Same.new (o := .tup [nv i, nv b, .int to]) hT
  refine ⟨_, rfl, p, _, _, _, _, rfl, s1 _ _ h1, cl_Play c, na_Play_grants c, rfl, one _ T to (hp.same s1) upd_same ⟨_, rfl, ?_⟩⟩
  cases hc : (h.room.grants.any fun x => x.player == i && (x.position == b && decide (rcvI x.recipient = to))) with
  | true =>
    rw [hc] at hQ
    exact iteT (hQ _ s1)
  | false =>
    rw [hc] at hQ
    refine iteF ⟨_, rfl, _, rfl, by show 3 ≤ sizeLine; decide, fun T2 hT2 => ?_⟩
    have s2 := s1.trans (Same.new (o := .tup [nv i, nv b, .int (-1)]) hT2)
    exact ⟨_, rfl, p, _, _, _, _, rfl, s2 _ _ h1, cl_Play c, na_Play_grants c, rfl, one _ T2 (-1) (hp.same s2) upd_same (hQ _ s2)⟩
def reasonOf (r : Vbndaa.Room) (x : Vbndaa.Action) : Nat := match Vbndaa.applyAction r x with
  | .ok _ => 0
  | .error k => k
abbrev N_Play_reason_to_lay : List Str := ["self", "action"]
theorem sc_Play_reason_to_lay : FnScope N_Play_reason_to_lay ["self", "action"] (defScope s_Play_reason_to_lay) := ⟨rfl, rfl, rfl, by decide +kernel, rfl, by decide +kernel, by decide +kernel⟩
theorem ok_Play_reason_to_lay (c : Ctx K mg) : OkM P w K mg base (L2.CX P w) 5 c_Play "reason_to_lay" ["self", "action"] ((fun vs H Q _ => ∃ p t q l g o ac h m a i w, vs = [.ref p, .ref a] ∧ PlayAt H p t q l g o ac h ∧ Wh m h ∧ ActAt H a (.submit i w) ∧ Wa h.room.table (.submit i w) ∧ RetV Q H (nv (reasonOf h.room (.submit i w))))) := by
  refine okM (f_Play_reason_to_lay c) (me_Play_reason_to_lay c) (cl_Play c) sc_Play_reason_to_lay (fun _ _ _ _ _ _ us hl => match us, hl with | [_, _], _ => rfl) (fun vs H Q E h => by obtain ⟨p, t, q, l, g, o, ac, h, m, a, i, w, rfl, hp, hw, ha, hwa, hQ⟩ := h; rfl) fun cdv A outer s H vs Q E hr h => ⟨_, (pss_cons (ps_if (pt_cmpR op_notN (pe_ix (ix_listK (K := K) rfl) (pe_fldK (K := K) rfl (pv 0)) (pe_fldK (K := K) rfl (pv 1)) (fun _ _ => rfl)) pe_non (nomark _)) (pss_one (ps_ret (pgi (i_LAID_ALREADY c)))) pss_nil)
      (pss_cons (ps_if (pt_cmpR (neDK (K := K) rfl hr.units) (pe_callB (sortedK (K := K) rfl) (by rfl) (b_sorted c) (by decide +kernel) (pa_cons (pe_fldK (K := K) rfl (pv 1)) pa_nil)) (pe_listRg rfl rfl (b_list c) (prg_1 rfl (b_range c) (pmeth0 (E := E0) (ok_Table_card_count c) (pe_fldK (K := K) rfl (pv 0)) (hr.mono (by decide)) passL))) (nomark _)) (pss_one (ps_ret (pgi (i_NO_PERMUTATION_plays c)))) pss_nil)
      (pss_one (ps_ret (pgi (i_VALID c)))))), ?_⟩
  obtain ⟨p, t, q, l, g, o, ac, h, m, a, i, w, rfl, hp, hw, ha, hwa, hQ⟩ := h
  obtain ⟨dx, h1⟩ := hp.obj
  obtain ⟨dxa, b, ha1, ha2⟩ := ha
  obtain ⟨us, h2, h3⟩ := hp.lay
  have hil : i < h.room.permutations.length := by rw [hw.perms]; exact hwa.1
  have hi : h.room.permutations[i]? = some h.room.permutations[i] := List.getElem?_eq_getElem hil
  generalize h.room.permutations[i] = e at hi
  obtain ⟨v, hv, hr⟩ := pr_get' h3 hi
  refine ⟨_, rfl, p, _, _, _, _, rfl, h1, cl_Play c, na_Play_layers c, rfl, _, rfl, a, _, _, _, _, rfl, ha1, cl_Action c, na_Action_player c, rfl, l, _, (i : Int), _, rfl, rfl, SqL.of h2, atI_nat hv, rfl, _, rfl, ?_⟩
  unfold reasonOf Vbndaa.applyAction at hQ
  simp only [hi] at hQ
  cases e with
  | some wd =>
    obtain ⟨ad, rfl, _⟩ := hr
    exact iteT (hQ H (Same.refl _))
  | none =>
    have hr : v = .non := hr
    subst hr
    refine iteF ?_
    simp only at hQ
    obtain ⟨dxt, ht⟩ : ∃ dxt, H t = some (tableO dxt q h.room.table.deck.copies) := by
      obtain ⟨_, _, dxt, ht, _⟩ := hp.tb
      exact ⟨dxt, ht⟩
    have hds := hw.tab.2.1
    refine ⟨_, rfl, a, _, _, _, _, rfl, ha1, cl_Action c, na_Action_numbers c, rfl, b, _, rfl, SqL.of ha2, fun zs pz hzp hzs hzn => ?_⟩
    have s1 := Same.new (o := .lst (zs.map V.int)) hzn
    refine ⟨_, rfl, p, _, _, _, _, rfl, s1 _ _ h1, cl_Play c, na_Play_table c, rfl, t, _, _, rfl, s1 _ _ ht, rfl, t, q, _, rfl, hp.tb.same s1, _, rfl, ?_⟩
    refine ⟨⟨by decide, by decide, by omega, by omega⟩, fun q2 hq2 => ?_⟩
    have s2 := s1.trans (Same.new (o := .lst (rgV 0 ((Vbndaa.deckSize h.room.table.deck : Nat) : Int))) hq2)
    refine ⟨.list (zs.map dz), .list (((List.range (Vbndaa.cardCount h.room.table)).map fun (n : Nat) => (n : Int)).map dz), .lst (SqL.of ((upd_ne (ne_of_none upd_same hq2)).trans upd_same)) (dp_ints zs), .lst (SqL.of (by rw [upd_same, rgV_nat]; rfl)) (dp_ints _), sh_dzs _, sh_dzs _, _, rfl, ?_⟩
    have e : PyData.eqv (.list (zs.map dz)) (.list (((List.range (Vbndaa.cardCount h.room.table)).map fun (n : Nat) => (n : Int)).map dz)) = Vbndaa.isPermutation (Vbndaa.cardCount h.room.table) w := by
      show PyData.eqvAll _ _ = _
      rw [eqv_dzs, Bool.eq_iff_iff, decide_eq_true_iff]
      exact sorted_range hzp hzs _
    rw [e]
    cases hb : Vbndaa.isPermutation (Vbndaa.cardCount h.room.table) w with
    | true =>
      rw [hb] at hQ
      exact iteF (hQ _ s2)
    | false =>
      rw [hb] at hQ
      exact iteT (hQ _ s2)
theorem rcvI_eq (a b : Option Nat) : decide (rcvI a = rcvI b) = (a == b) := by
  rw [Bool.eq_iff_iff, decide_eq_true_iff, beq_iff_eq]
  constructor
  · intro e
    cases a with
    | none =>
      cases b with
      | none => rfl
      | some y =>
        have e : (-1 : Int) = (y : Int) := e
        omega
    | some x =>
      cases b with
      | none =>
        have e : (x : Int) = -1 := e
        omega
      | some y =>
        have e : (x : Int) = (y : Int) := e
        congr 1
        omega
  · intro e
    rw [e]
theorem deed_ne {x : Vbndaa.Action} {k : Nat} (h : deedOf x ≠ k) : decide (nv (deedOf x) = nv k) = false := decide_eq_false fun e => h (nv_inj e)
abbrev N_Play_reason_against : List Str := ["self", "action", "position"]
theorem sc_Play_reason_against : FnScope N_Play_reason_against ["self", "action"] (defScope s_Play_reason_against) := ⟨rfl, rfl, rfl, by decide +kernel, rfl, by decide +kernel, by decide +kernel⟩
theorem ok_Play_reason_against (c : Ctx K mg) : OkM P w K mg base (L2.CX P w) 6 c_Play "reason_against" ["self", "action"] ((fun vs H Q _ => ∃ p t q l g o ac h m a x, vs = [.ref p, .ref a] ∧ PlayAt H p t q l g o ac h ∧ Wh m h ∧ ActAt H a x ∧ Wa h.room.table x ∧ RetV Q H (nv (reasonOf h.room x)))) := by
  refine okM (f_Play_reason_against c) (me_Play_reason_against c) (cl_Play c) sc_Play_reason_against (fun _ _ _ _ _ _ us hl => match us, hl with | [_, _], _ => rfl) (fun vs H Q E h => by obtain ⟨p, t, q, l, g, o, ac, h, m, a, x, rfl, hp, hw, ha, hwa, hQ⟩ := h; rfl) fun cdv A outer s H vs Q E hr h => ⟨_, (pss_cons (ps_if (pt_cmpR op_eq (pe_fldK (K := K) rfl (pv 1)) (pgi (i_LAYS c)) (nomark _)) (pss_one (ps_ret (pmeth (E := E0) (ok_Play_reason_to_lay c) (pv 0) (hr.mono (by decide)) passL (pa_cons (pv 1) pa_nil)))) pss_nil)
      (pss_cons (ps_if (pt_not (pt_val (pmeth0 (E := E0) (ok_Play_all_laid c) (pv 0) (hr.mono (by decide)) passL))) (pss_one (ps_ret (pgi (i_NOT_ALL_LAID c)))) pss_nil)
      (pss_cons (ps_set (i := 2) sc_Play_reason_against.nd rfl (Or.inl rfl) (pe_ix (ix_listK (K := K) rfl) (pe_fldK (K := K) rfl (pv 1)) pe_int (fun _ _ => rfl)))
      (pss_cons (ps_if (pt_cmpR op_ge (pv 2) (pmeth0 (E := E0) (ok_Table_card_count c) (pe_fldK (K := K) rfl (pv 0)) (hr.mono (by decide)) passL) (nomark _)) (pss_one (ps_ret (pgi (i_NO_POSITION c)))) pss_nil)
      (pss_cons (ps_if (pt_cmpR op_eq (pe_fldK (K := K) rfl (pv 1)) (pgi (i_PERMITS c)) (nomark _)) (pss_one (ps_if (pt_val (pmeth (E := E0) (ok_Play_has_granted c) (pv 0) (hr.mono (by decide)) passL (pa_cons (pe_fldK (K := K) rfl (pv 1)) (pa_cons (pv 2) (pa_cons (pe_ix (ix_listK (K := K) rfl) (pe_fldK (K := K) rfl (pv 1)) pe_int (fun _ _ => rfl)) pa_nil))))) (pss_one (ps_ret (pgi (i_GRANTED_ALREADY c)))) pss_nil)) (pss_one (ps_if (pt_cmpR op_gt (pe_ix (ix_listK (K := K) rfl) (pe_fldK (K := K) rfl (pv 0)) (pv 2) (fun _ _ => rfl)) pe_int (nomark _)) (pss_one (ps_ret (pgi (i_CLAIMED_ALREADY c)))) pss_nil)))
      (pss_one (ps_ret (pgi (i_VALID c))))))))), ?_⟩
  obtain ⟨p, t, q, l, g, o, ac, h, m, a, x, rfl, hp, hw, ha, hwa, hQ⟩ := h
  obtain ⟨dx, h1⟩ := hp.obj
  obtain ⟨dxa, b, ha1, ha2⟩ := id ha
  obtain ⟨dxt, ht⟩ : ∃ dxt, H t = some (tableO dxt q h.room.table.deck.copies) := by
    obtain ⟨_, _, dxt, ht, _⟩ := hp.tb
    exact ⟨dxt, ht⟩
  have hpl : h.room.permutations.length ≤ 1000 := by
    rw [hw.perms]
    obtain ⟨_, _, _, w4, _⟩ := hw.tab.1
    omega
  refine ⟨_, rfl, a, _, _, _, _, rfl, ha1, cl_Action c, na_Action_deed c, rfl, rfl, _, rfl, ?_⟩
  cases x with
  | submit i w => exact iteT ⟨_, rfl, p, _, _, rfl, h1, rfl, _, rfl, p, t, q, l, g, o, ac, h, m, a, i, w, rfl, hp, hw, ha, hwa, hQ⟩
  | grant i pos to =>
    refine iteF ⟨_, rfl, p, _, _, rfl, h1, rfl, p, t, q, l, g, o, ac, h, rfl, hp, hpl, fun H1 s1 => ⟨_, rfl, ?_⟩⟩
    unfold reasonOf Vbndaa.applyAction at hQ
    simp only at hQ
    rw [if_neg (by
      simp only [not_or, Bool.not_eq_true]
      refine ⟨by have := hwa.1; omega, ?_⟩
      cases to with
      | none => rfl
      | some y =>
        have := hwa.2.2 y rfl
        simp only [Option.any_some, decide_eq_false_iff_not]
        omega)] at hQ
    cases hs : Vbndaa.allSubmitted h.room with
    | false =>
      rw [hs, if_pos rfl] at hQ
      exact hQ H1 s1
    | true =>
      rw [hs, if_neg (by decide)] at hQ
      refine ⟨_, rfl, a, _, _, _, _, rfl, s1 _ _ ha1, cl_Action c, na_Action_numbers c, rfl, b, _, (0 : Nat), _, rfl, rfl, SqL.of (s1 _ _ ha2), atI_nat rfl, ?_⟩
      refine ⟨_, rfl, _, rfl, p, _, _, _, _, rfl, s1 _ _ h1, cl_Play c, na_Play_table c, rfl, t, _, _, rfl, s1 _ _ ht, rfl, t, q, _, rfl, hp.tb.same s1, _, _, rfl, rfl, _, rfl, ?_⟩
      by_cases c1 : Vbndaa.cardCount h.room.table ≤ pos
      · rw [if_pos c1] at hQ
        refine ite2 (fun _ => hQ H1 s1) (fun e => absurd (decide_eq_true (show ((Vbndaa.deckSize h.room.table.deck : Nat) : Int) ≤ (pos : Int) by unfold Vbndaa.cardCount at c1; omega)) e)
      · rw [if_neg c1] at hQ
        refine ite2 (fun e => absurd (of_decide_eq_true e) (by unfold Vbndaa.cardCount at c1; omega)) (fun _ => ?_)
        refine ⟨_, rfl, a, _, _, _, _, rfl, s1 _ _ ha1, cl_Action c, na_Action_deed c, rfl, rfl, _, rfl, iteT ?_⟩
        refine ⟨_, rfl, p, _, _, rfl, s1 _ _ h1, rfl, _, rfl, a, _, _, _, _, rfl, s1 _ _ ha1, cl_Action c, na_Action_player c, rfl, _, rfl, _, rfl, a, _, _, _, _, rfl, s1 _ _ ha1, cl_Action c, na_Action_numbers c, rfl, b, _, (1 : Nat), _, rfl, rfl, SqL.of (s1 _ _ ha2), atI_nat rfl, p, t, q, l, g, o, ac, h, i, pos, _, rfl, hp.same s1, fun H2 s2 => ⟨_, rfl, ?_⟩⟩
        have eh : hasG h.room i pos (rcvI to) = h.room.grants.any fun x => x.player == i && (x.position == pos && (x.recipient == none || x.recipient == to)) := by
          unfold hasG
          congr 1
          funext x
          rw [rcvI_eq]
        rw [eh]
        cases hg : (h.room.grants.any fun x => x.player == i && (x.position == pos && (x.recipient == none || x.recipient == to))) with
        | true =>
          rw [hg] at hQ
          exact hQ H2 (s1.trans s2)
        | false =>
          rw [hg] at hQ
          exact hQ H2 (s1.trans s2)
  | claim i pos =>
    refine iteF ⟨_, rfl, p, _, _, rfl, h1, rfl, p, t, q, l, g, o, ac, h, rfl, hp, hpl, fun H1 s1 => ⟨_, rfl, ?_⟩⟩
    unfold reasonOf Vbndaa.applyAction at hQ
    simp only at hQ
    rw [if_neg (by have := hwa.1; omega)] at hQ
    cases hs : Vbndaa.allSubmitted h.room with
    | false =>
      rw [hs, if_pos rfl] at hQ
      exact hQ H1 s1
    | true =>
      rw [hs, if_neg (by decide)] at hQ
      refine ⟨_, rfl, a, _, _, _, _, rfl, s1 _ _ ha1, cl_Action c, na_Action_numbers c, rfl, b, _, (0 : Nat), _, rfl, rfl, SqL.of (s1 _ _ ha2), atI_nat rfl, ?_⟩
      refine ⟨_, rfl, _, rfl, p, _, _, _, _, rfl, s1 _ _ h1, cl_Play c, na_Play_table c, rfl, t, _, _, rfl, s1 _ _ ht, rfl, t, q, _, rfl, hp.tb.same s1, _, _, rfl, rfl, _, rfl, ?_⟩
      by_cases c1 : Vbndaa.cardCount h.room.table ≤ pos
      · rw [List.getElem?_eq_none (by rw [hw.owns]; exact c1)] at hQ
        refine ite2 (fun _ => hQ H1 s1) (fun e => absurd (decide_eq_true (show ((Vbndaa.deckSize h.room.table.deck : Nat) : Int) ≤ (pos : Int) by unfold Vbndaa.cardCount at c1; omega)) e)
      · refine ite2 (fun e => absurd (of_decide_eq_true e) (by unfold Vbndaa.cardCount at c1; omega)) (fun _ => ?_)
        have hol : pos < h.room.owners.length := by rw [hw.owns]; omega
        have ho : h.room.owners[pos]? = some h.room.owners[pos] := List.getElem?_eq_getElem hol
        generalize h.room.owners[pos] = e at ho
        rw [ho] at hQ
        refine ⟨_, rfl, a, _, _, _, _, rfl, s1 _ _ ha1, cl_Action c, na_Action_deed c, rfl, rfl, _, rfl, iteF ?_⟩
        refine ⟨_, rfl, p, _, _, _, _, rfl, s1 _ _ h1, cl_Play c, na_Play_owners c, rfl, _, rfl, o, _, (pos : Int), .int (ow e), rfl, rfl, SqL.of (s1 _ _ hp.own), atI_nat (by rw [List.getElem?_map, List.getElem?_map, ho]; rfl), _, _, rfl, rfl, _, rfl, ?_⟩
        cases e with
        | none => exact iteF (hQ H1 s1)
        | some y =>
          refine ite2 (fun _ => hQ H1 s1) (fun e => absurd (decide_eq_true (show (0 : Int) < ow (some y) by show (0 : Int) < (y : Int) + 1; omega)) e)
end

end VD
namespace VD
open PySem PySem.Spec PyProof.Rows L2
theorem app_cases {r r' : Vbndaa.Room} {x : Vbndaa.Action} (h : Vbndaa.applyAction r x = .ok r') : r'.table = r.table ∧ (match x with
    | .submit p o => r.permutations[p]? = some none ∧ Vbndaa.isPermutation (Vbndaa.cardCount r.table) o = true ∧ r' = { r with permutations := r.permutations.set p (some o) }
    | .grant p b q => b < Vbndaa.cardCount r.table ∧ r' = { r with grants := r.grants ++ [⟨p, b, q⟩] }
    | .claim p b => b < r.owners.length ∧ r' = { r with owners := r.owners.set b (some p) }) := by
  unfold Vbndaa.applyAction at h
  cases x with
  | submit p o =>
    simp only at h
    split at h
    · cases h
    · cases h
    · rename_i h1
      split at h
      · cases h
      · rename_i h2
        cases h
        exact ⟨rfl, h1, by simpa using h2, rfl⟩
  | grant p b q =>
    simp only at h
    split at h
    · cases h
    · split at h
      · cases h
      · split at h
        · cases h
        · rename_i h3
          split at h
          · cases h
          · cases h
            exact ⟨rfl, by omega, rfl⟩
  | claim p b =>
    simp only at h
    split at h
    · cases h
    · split at h
      · cases h
      · split at h
        · cases h
        · cases h
        · rename_i h3
          cases h
          exact ⟨rfl, (List.getElem?_eq_some_iff.mp h3).1, rfl⟩
theorem first_idx : ∀ (l : List Vbndaa.Action) (r : Vbndaa.Room) (i j : Nat), Vbndaa.firstInvalidAction i r l = none → Vbndaa.firstInvalidAction j r l = none := by
  intro l
  induction l with
  | nil => exact fun _ _ _ _ => rfl
  | cons a l ih =>
    intro r i j h
    unfold Vbndaa.firstInvalidAction at h ⊢
    split at h
    · cases h
    · rename_i t ht
      exact ih t _ _ h
theorem apply_snoc : ∀ (l : List Vbndaa.Action) (r r'' : Vbndaa.Room) (x : Vbndaa.Action), Vbndaa.firstInvalidAction 0 r l = none → Vbndaa.applyAction (Vbndaa.applyActions r l) x = .ok r'' → Vbndaa.applyActions r (l ++ [x]) = r'' ∧ Vbndaa.firstInvalidAction 0 r (l ++ [x]) = none := by
  intro l
  induction l with
  | nil =>
    intro r r'' x _ h2
    have h2 : Vbndaa.applyAction r x = .ok r'' := h2
    constructor
    · show (match Vbndaa.applyAction r x with | .error _ => r | .ok t => Vbndaa.applyActions t []) = r''
      rw [h2]
      rfl
    · show (match Vbndaa.applyAction r x with | .error k => some (0, Vbndaa.actingPlayer x, k) | .ok t => Vbndaa.firstInvalidAction (0 + 1) t []) = none
      rw [h2]
      rfl
  | cons a l ih =>
    intro r r'' x h3 h2
    have h3 : (match Vbndaa.applyAction r a with | .error k => some (0, Vbndaa.actingPlayer a, k) | .ok t => Vbndaa.firstInvalidAction (0 + 1) t l) = none := h3
    have h2 : Vbndaa.applyAction (match Vbndaa.applyAction r a with | .error _ => r | .ok t => Vbndaa.applyActions t l) x = .ok r'' := h2
    show (match Vbndaa.applyAction r a with | .error _ => r | .ok t => Vbndaa.applyActions t (l ++ [x])) = r'' ∧ (match Vbndaa.applyAction r a with | .error k => some (0, Vbndaa.actingPlayer a, k) | .ok t => Vbndaa.firstInvalidAction (0 + 1) t (l ++ [x])) = none
    cases ha : Vbndaa.applyAction r a with
    | error k =>
      rw [ha] at h3
      cases h3
    | ok t =>
      rw [ha] at h3 h2
      obtain ⟨h4, h5⟩ := ih t r'' x (first_idx _ _ _ _ h3) h2
      exact ⟨h4, first_idx _ _ _ _ h5⟩
theorem wh_step {m : Nat} {h : Vbndaa.Session} {x : Vbndaa.Action} {r' : Vbndaa.Room} (hw : Wh m h) (ha : Wa h.room.table x) (hx : Vbndaa.applyAction h.room x = .ok r') : Wh (m + 1) ⟨r', h.actions ++ [x]⟩ := by
  obtain ⟨ht, hc⟩ := app_cases hx
  have hlog : Vbndaa.applyActions (Vbndaa.newRoom r'.table) (h.actions ++ [x]) = r' ∧ Vbndaa.firstInvalidAction 0 (Vbndaa.newRoom r'.table) (h.actions ++ [x]) = none := by
    rw [ht]
    exact apply_snoc _ _ _ _ hw.ok (by rw [hw.log]; exact hx)
  have hacts : (h.actions ++ [x]).length ≤ m + 1 := by
    rw [List.length_append]
    have := hw.acts
    show _ + 1 ≤ _
    omega
  have hwa : ∀ y ∈ h.actions ++ [x], Wa r'.table y := fun y hy => by
    rw [ht]
    rcases List.mem_append.mp hy with e | e
    · exact hw.wa y e
    · obtain rfl : y = x := by simpa using e
      exact ha
  cases x with
  | submit p o =>
    obtain ⟨h1, h2, rfl⟩ := hc
    refine ⟨hw.tab, ?_, fun w hw' => ?_, hw.owns, Nat.le_succ_of_le hw.grs, hw.grx, hacts, hwa, hlog.1, hlog.2⟩
    · show (h.room.permutations.set p (some o)).length = _
      rw [List.length_set]
      exact hw.perms
    · rcases List.mem_or_eq_of_mem_set hw' with e | e
      · exact hw.perm w e
      · cases e
        exact h2
  | grant p b q =>
    obtain ⟨h1, rfl⟩ := hc
    refine ⟨hw.tab, hw.perms, hw.perm, hw.owns, ?_, fun y hy => ?_, hacts, hwa, hlog.1, hlog.2⟩
    · show (h.room.grants ++ [_]).length ≤ m + 1
      rw [List.length_append]
      have := hw.grs
      show _ + 1 ≤ _
      omega
    · rcases List.mem_append.mp hy with e | e
      · exact hw.grx y e
      · obtain rfl : y = ⟨p, b, q⟩ := by simpa using e
        exact ⟨ha.1, h1⟩
  | claim p b =>
    obtain ⟨h1, rfl⟩ := hc
    refine ⟨hw.tab, hw.perms, hw.perm, ?_, Nat.le_succ_of_le hw.grs, hw.grx, hacts, hwa, hlog.1, hlog.2⟩
    show (h.room.owners.set b (some p)).length = _
    rw [List.length_set]
    exact hw.owns
section
variable {P : Program} {w : World} {K : PySem.W.Frag} {mg : Str → Option Value} {base : Heap}
abbrev N_Play_perform : List Str := ["self", "action"]
theorem sc_Play_perform : FnScope N_Play_perform ["self", "action"] (defScope s_Play_perform) := ⟨rfl, rfl, rfl, by decide +kernel, rfl, by decide +kernel, by decide +kernel⟩
theorem ok_Play_perform (c : Ctx K mg) : OkM P w K mg base (L2.CX P w) 1 c_Play "perform" ["self", "action"] ((fun vs H Q _ => ∃ p t q l g o ac h m a x r', vs = [.ref p, .ref a] ∧ PlayAt H p t q l g o ac h ∧ Wh m h ∧ m ≤ 100000 ∧ ActAt (drp H [l, g, o, ac]) a x ∧ Wa h.room.table x ∧ Vbndaa.applyAction h.room x = .ok r' ∧ ∀ H', But [l, g, o, ac] H H' → PlayAt H' p t q l g o ac (Vbndaa.Session.mk r' (h.actions ++ [x])) → Q .non H')) := by
  refine okM (f_Play_perform c) (me_Play_perform c) (cl_Play c) sc_Play_perform (fun _ _ _ _ _ _ us hl => match us, hl with | [_, _], _ => rfl) (fun vs H Q E h => by obtain ⟨p, t, q, l, g, o, ac, h, m, a, x, r', rfl, hp, hw, hm, ha, hwa, hx, hQ⟩ := h; rfl) fun cdv A outer s H vs Q E hr h => ⟨_, (pss_cons (ps_if (pt_cmpR op_eq (pe_fldK (K := K) rfl (pv 1)) (pgi (i_LAYS c)) (nomark _)) (pss_one (ps_asg (pe_fldK (K := K) rfl (pv 1)) (pg_sub (pe_fldK (K := K) rfl (pv 0)) (pe_fldK (K := K) rfl (pv 1)) set_list))) (pss_one (ps_if (pt_cmpR op_eq (pe_fldK (K := K) rfl (pv 1)) (pgi (i_PERMITS c)) (nomark _)) (pss_one (ps_expr (pe_bm PySem.F.plainAttrs_list PySem.F.slot_list_append PySem.F.type_list_append mt_append (pe_fldK (K := K) rfl (pv 0)) (pa_cons (pe_tup (pa_cons (pe_fldK (K := K) rfl (pv 1)) (pa_cons (pe_ix (ix_listK (K := K) rfl) (pe_fldK (K := K) rfl (pv 1)) pe_int (fun _ _ => rfl)) (pa_cons (pe_ix (ix_listK (K := K) rfl) (pe_fldK (K := K) rfl (pv 1)) pe_int (fun _ _ => rfl)) pa_nil)))) pa_nil)))) (pss_one (ps_asg (pe_op op_add (pe_fldK (K := K) rfl (pv 1)) pe_int) (pg_sub (pe_fldK (K := K) rfl (pv 0)) (pe_ix (ix_listK (K := K) rfl) (pe_fldK (K := K) rfl (pv 1)) pe_int (fun _ _ => rfl)) set_list))))))
      (pss_one (ps_expr (pe_bm PySem.F.plainAttrs_list PySem.F.slot_list_append PySem.F.type_list_append mt_append (pe_fldK (K := K) rfl (pv 0)) (pa_cons (pv 1) pa_nil))))), ?_⟩
  obtain ⟨p, t, q, l, g, o, ac, h, m, a, x, r', rfl, hp, hw, hm, ha, hwa, hx, hQ⟩ := h
  obtain ⟨dx, h1⟩ := hp.obj
  obtain ⟨dxa, b, ha1', ha2'⟩ := id ha
  have ha1 := (drp_of ha1').1
  have ha2 := (drp_of ha2').1
  obtain ⟨us, l1, l2⟩ := hp.lay
  obtain ⟨gs, g1, g2⟩ := hp.grs
  obtain ⟨as, c1, c2⟩ := hp.act
  have nd := hp.nd
  simp only [List.nodup_cons, List.mem_cons, List.not_mem_nil, or_false, not_or, List.nodup_nil, and_true, not_false_eq_true] at nd
  obtain ⟨⟨n1, n2, n3⟩, ⟨n4, n5⟩, n6⟩ := nd
  obtain ⟨ht, hc⟩ := app_cases hx
  have hasl : as.length ≤ 100000 := by rw [c2.length]; have := hw.acts; omega
  have hgsl : gs.length ≤ 100000 := by rw [g2.length]; have := hw.grs; omega
  -- the end: the action is noted
  have fin : ∀ (H1 : Hp), But [l, g, o] H H1 → H1 ac = some (.lst as) →
      (∀ H2, But [l, g, o, ac] H H2 → (∀ b u, H1 b = some u → b ≠ ac → H2 b = some u) → H2 ac = some (.lst (as ++ [.ref a])) → PlayAt H2 p t q l g o ac (Vbndaa.Session.mk r' (h.actions ++ [x]))) →
      tDrop (tBM (cxOf (L2.CX P w) P w K mg base N_Play_perform (Str.ofString "Play.perform") (defScope s_Play_perform) a_Play_perform cdv A outer s H E).K "list" rAppend (tFld K (tVar 0) "actions") (tCons (tVar 1) tNil)) { nx := fun x H' => Q V.non H', rt := Q } [some (.ref p), some (.ref a)] H1 := fun H1 b1 hac hk => by
    have hpm : p ∉ [l, g, o] := by
      obtain ⟨dx', h1'⟩ := hp.at_
      have := (drp_of h1').2
      simp only [List.mem_cons, List.not_mem_nil, or_false, not_or] at this ⊢
      exact ⟨this.1, this.2.1, this.2.2.1⟩
    refine ⟨_, rfl, p, _, _, _, _, rfl, b1 _ _ h1 hpm, cl_Play c, na_Play_actions c, rfl, .inl ⟨rfl, _, SqL.of hac⟩, _, rfl, ac, _, _, rfl, rfl, hac, by rw [sizeLine_eq]; omega, ?_⟩
    have b2 : But [l, g, o, ac] H (upd H1 ac (.lst (as ++ [.ref a]))) := (b1.mono fun y hy => .inl (by simp only [List.mem_cons, List.not_mem_nil, or_false] at hy ⊢; rcases hy with e | e | e <;> simp [e])).put (by simp)
    exact hQ _ b2 (hk _ b2 (fun b u e ne => (upd_ne ne).trans e) upd_same)
  obtain ⟨dxp, hp1⟩ := hp.at_
  refine ⟨_, rfl, a, _, _, _, _, rfl, ha1, cl_Action c, na_Action_deed c, rfl, rfl, _, rfl, ?_⟩
  have ixn : ∀ {n i : Nat}, i < n → ixN n (i : Int) = some i := fun {n i} hi => by
    unfold ixN
    rw [if_pos (by omega), if_pos (by omega), Int.toNat_natCast]
  cases x with
  | submit i w =>
    obtain ⟨e1, e2, rfl⟩ := hc
    have hil : i < us.length := by
      rw [l2.length]
      exact (List.getElem?_eq_some_iff.mp e1).1
    refine iteT ⟨_, rfl, a, _, _, _, _, rfl, ha1, cl_Action c, na_Action_numbers c, rfl, _, rfl, p, _, _, _, _, rfl, h1, cl_Play c, na_Play_layers c, rfl, _, rfl, a, _, _, _, _, rfl, ha1, cl_Action c, na_Action_player c, rfl, l, _, _, i, rfl, rfl, l1, ixn hil, ?_⟩
    refine fin _ (((Same.refl H).but _).put (by simp)) ((upd_ne (Ne.symm n3)).trans c1) fun H2 b2 k2 hac => ?_
    have dd := b2.drp
    refine ⟨hp.nd, ⟨dxp, dd _ _ hp1⟩, hp.tab.same dd, ⟨_, k2 _ _ upd_same n3, pr_set i (Paired.mono (fun v e => rlay_mono _ _ v e dd) l2) ⟨b, rfl, ?_⟩⟩, ⟨gs, k2 _ _ ((upd_ne (Ne.symm n1)).trans g1) n5, Paired.mono (fun v e => rgr_mono _ _ v e dd) g2⟩, k2 _ _ ((upd_ne (Ne.symm n2)).trans hp.own) n6, ⟨_, hac, pr_append (Paired.mono (fun v e => ract_mono _ _ v e dd) c2) (.cons ⟨a, rfl, ha.same dd⟩ .nil)⟩⟩
    have := dd _ _ ha2'
    show drp H2 [l, g, o, ac] b = _
    rw [this, nv_map]
    rfl
  | grant i pos to =>
    obtain ⟨e1, rfl⟩ := hc
    refine iteF ⟨_, rfl, a, _, _, _, _, rfl, ha1, cl_Action c, na_Action_deed c, rfl, rfl, _, rfl, iteT ?_⟩
    refine ⟨_, rfl, p, _, _, _, _, rfl, h1, cl_Play c, na_Play_grants c, rfl, .inl ⟨rfl, _, SqL.of g1⟩, ?_⟩
    refine ⟨_, rfl, a, _, _, _, _, rfl, ha1, cl_Action c, na_Action_player c, rfl, _, rfl, a, _, _, _, _, rfl, ha1, cl_Action c, na_Action_numbers c, rfl, b, _, (0 : Nat), _, rfl, rfl, SqL.of ha2, atI_nat rfl, _, rfl, a, _, _, _, _, rfl, ha1, cl_Action c, na_Action_numbers c, rfl, b, _, (1 : Nat), _, rfl, rfl, SqL.of ha2, atI_nat rfl, by show 3 ≤ sizeLine; decide, fun T hT => ?_⟩
    have s1 := Same.new (o := .tup [nv i, nv pos, .int (rcvI to)]) hT
    refine ⟨g, gs, _, rfl, rfl, s1 _ _ g1, by rw [sizeLine_eq]; omega, ?_⟩
    have Tl : T ≠ l := (ne_of_none l1 hT).symm
    have Tg : T ≠ g := (ne_of_none g1 hT).symm
    have To : T ≠ o := (ne_of_none (H := H) hp.own hT).symm
    have Tc : T ≠ ac := (ne_of_none c1 hT).symm
    refine fin _ ((s1.but _).put (by simp)) ((upd_ne (Ne.symm n5)).trans (s1 _ _ c1)) fun H2 b2 k2 hac => ?_
    have dd := b2.drp
    refine ⟨hp.nd, ⟨dxp, dd _ _ hp1⟩, hp.tab.same dd, ⟨us, k2 _ _ ((upd_ne n1).trans (s1 _ _ l1)) n3, Paired.mono (fun v e => rlay_mono _ _ v e dd) l2⟩, ⟨_, k2 _ _ upd_same n5, pr_append (Paired.mono (fun v e => rgr_mono _ _ v e dd) g2) (.cons ⟨T, rfl, drp_at (k2 _ _ ((upd_ne Tg).trans upd_same) Tc) (by simp [Tl, Tg, To, Tc])⟩ .nil)⟩, k2 _ _ ((upd_ne (Ne.symm n4)).trans (s1 _ _ hp.own)) n6, ⟨_, hac, pr_append (Paired.mono (fun v e => ract_mono _ _ v e dd) c2) (.cons ⟨a, rfl, ha.same dd⟩ .nil)⟩⟩
  | claim i pos =>
    obtain ⟨e1, rfl⟩ := hc
    refine iteF ⟨_, rfl, a, _, _, _, _, rfl, ha1, cl_Action c, na_Action_deed c, rfl, rfl, _, rfl, iteF ?_⟩
    refine ⟨_, rfl, a, _, _, _, _, rfl, ha1, cl_Action c, na_Action_player c, rfl, _, _, rfl, rfl, _, rfl, p, _, _, _, _, rfl, h1, cl_Play c, na_Play_owners c, rfl, _, rfl, a, _, _, _, _, rfl, ha1, cl_Action c, na_Action_numbers c, rfl, b, _, (0 : Nat), _, rfl, rfl, SqL.of ha2, atI_nat rfl, o, _, _, pos, rfl, rfl, hp.own, ixn (by rw [List.length_map, List.length_map]; exact e1), ?_⟩
    refine fin _ (((Same.refl H).but _).put (by simp)) ((upd_ne (Ne.symm n6)).trans c1) fun H2 b2 k2 hac => ?_
    have dd := b2.drp
    refine ⟨hp.nd, ⟨dxp, dd _ _ hp1⟩, hp.tab.same dd, ⟨us, k2 _ _ ((upd_ne n2).trans l1) n3, Paired.mono (fun v e => rlay_mono _ _ v e dd) l2⟩, ⟨gs, k2 _ _ ((upd_ne n4).trans g1) n5, Paired.mono (fun v e => rgr_mono _ _ v e dd) g2⟩, ?_, ⟨_, hac, pr_append (Paired.mono (fun v e => ract_mono _ _ v e dd) c2) (.cons ⟨a, rfl, ha.same dd⟩ .nil)⟩⟩
    show H2 o = some (.lst (((h.room.owners.set pos (some i)).map ow).map V.int))
    rw [List.map_set, List.map_set]
    exact k2 _ _ upd_same n6
end

end VD
namespace VD
open PySem PySem.Spec PyProof.Rows L2
theorem same_new {H H' : Hp} {ms : List Addr} (s : Same H H') (n : ∀ m ∈ ms, H m = none) : Same H (drp H' ms) := fun b o e => drp_at (s b o e) fun q => by
  rw [n b q] at e
  cases e
theorem app_err {r : Vbndaa.Room} {x : Vbndaa.Action} {k : Nat} (h : Vbndaa.applyAction r x = .error k) : k ≠ 0 := by
  unfold Vbndaa.applyAction at h
  cases x with
  | submit p o =>
    simp only at h
    split at h
    · cases h; decide
    · cases h; decide
    · split at h
      · cases h; decide
      · cases h
  | grant p b q =>
    simp only at h
    split at h
    · cases h; decide
    · split at h
      · cases h; decide
      · split at h
        · cases h; decide
        · split at h
          · cases h; decide
          · cases h
  | claim p b =>
    simp only at h
    split at h
    · cases h; decide
    · split at h
      · cases h; decide
      · split at h
        · cases h; decide
        · cases h; decide
        · cases h
theorem reason_err {r : Vbndaa.Room} {x : Vbndaa.Action} {k : Nat} (h : Vbndaa.applyAction r x = .error k) : reasonOf r x = k := by
  unfold reasonOf
  rw [h]
theorem reason_ok {r r' : Vbndaa.Room} {x : Vbndaa.Action} (h : Vbndaa.applyAction r x = .ok r') : reasonOf r x = 0 := by
  unfold reasonOf
  rw [h]
theorem first_cons {i : Nat} {r : Vbndaa.Room} {x : Vbndaa.Action} {l : List Vbndaa.Action} : Vbndaa.firstInvalidAction i r (x :: l) = match Vbndaa.applyAction r x with
    | .error k => some (i, Vbndaa.actingPlayer x, k)
    | .ok t => Vbndaa.firstInvalidAction (i + 1) t l := rfl
/-- what the making of a play asks -/
theorem mk_play {H : Hp} {t q : Addr} {z : Vbndaa.Table} {Q : Addr → Hp → Prop} (ht : TbW H t q z) (hz : Wt z) (k : ∀ p l g o ac H', Same H H' → (∀ m ∈ [p, l, g, o, ac], H m = none) → PlayAt H' p t q l g o ac (newS z) → Q p H') :
    ∀ x dx, H x = none → H dx = none → dx ≠ x → (∃ p dx' t' q' z', [V.ref x, .ref t] = [.ref p, .ref t'] ∧ (upd (upd H dx (.own x)) x (.ins c_Play dx [])) p = some (.ins c_Play dx' []) ∧ TbW (upd (upd H dx (.own x)) x (.ins c_Play dx [])) t' q' z' ∧ Wt z' ∧
      ∀ H' l g o ac, But [p] (upd (upd H dx (.own x)) x (.ins c_Play dx [])) H' → (∀ m ∈ [l, g, o, ac], (upd (upd H dx (.own x)) x (.ins c_Play dx [])) m = none) → PlayAt H' p t' q' l g o ac (newS z') → (V.non = .non ∧ Q x H')) := fun x dx hx hdx hne => by
  have s : Same H (upd (upd H dx (.own x)) x (.ins c_Play dx [])) := fun a o e => (upd_ne (ne_of_none e hx)).trans ((upd_ne (ne_of_none e hdx)).trans e)
  refine ⟨x, dx, t, q, z, rfl, upd_same, ht.same s, hz, fun H' l g o ac b hn hp => ⟨rfl, k x l g o ac H' (fun a u e => b a u (s a u e) (by simp; exact ne_of_none e hx)) (fun m hm => ?_) hp⟩⟩
  rcases List.mem_cons.mp hm with e | e
  · rw [e]; exact hx
  · exact s.old (hn m e)
section
variable {P : Program} {w : World} {K : PySem.W.Frag} {mg : Str → Option Value} {base : Heap}
def FstQ (Q : VK) (H : Hp) (r : Option (Nat × Nat × Nat)) : Prop := match r with
  | none => RetV Q H .non
  | some x => ∀ T H', Same H H' → H' T = some (.tup [nv x.1, nv x.2.1, nv x.2.2]) → Q (.ref T) H'
abbrev N_first_invalid : List Str := ["table", "actions", "play", "index", "action", "reason"]
theorem sc_first_invalid : FnScope N_first_invalid ["table", "actions"] (defScope s_first_invalid) := ⟨rfl, rfl, rfl, by decide +kernel, rfl, by decide +kernel, by decide +kernel⟩
theorem ok_first_invalid (c : Ctx K mg) : OkF P w K mg base (L2.CX P w) 7 "first_invalid" ["table", "actions"] ((fun vs H Q _ => ∃ t q z a xs us, vs = [.ref t, .ref a] ∧ TbW H t q z ∧ Wt z ∧ H a = some (.lst us) ∧ Paired (RAct H) us xs ∧ (∀ x ∈ xs, Wa z x) ∧ xs.length ≤ 60001 ∧ FstQ Q H (Vbndaa.firstInvalidAction 0 (Vbndaa.newRoom z) xs))) := by
  refine okF (f_first_invalid c) (g_first_invalid c) sc_first_invalid (fun _ _ _ _ _ _ us hl => match us, hl with | [_, _], _ => rfl) (fun vs H Q E h => by obtain ⟨t, q, z, a, xs, us, rfl, ht, hz, ha, hp, hwa, hlen, hQ⟩ := h; rfl) fun cdv A outer s H vs Q E hr h => ⟨_, (pss_cons (ps_set (i := 2) sc_first_invalid.nd rfl (Or.inl rfl) (pmake (E := E0) (ok_Play_init c) (hr.mono (by decide)) passL (pa_cons (pv 0) pa_nil)))
      (pss_cons (ps_for PassesOwn.leaving rfl (pi_enum (by rfl) (b_enumerate c) (pa_cons (pv 1) pa_nil)) (pg_tup rfl (pgs_cons (pg_name (i := 3) sc_first_invalid.nd rfl (Or.inl rfl)) (pgs_cons (pg_name (i := 4) sc_first_invalid.nd rfl (Or.inl rfl)) pgs_nil))) (pss_cons (ps_set (i := 5) sc_first_invalid.nd rfl (Or.inl rfl) (pmeth (E := E0) (ok_Play_reason_against c) (pv 2) (hr.mono (by decide)) passL (pa_cons (pv 4) pa_nil)))
      (pss_cons (ps_if (pt_cmpR op_ne (pv 5) (pgi (i_VALID c)) (nomark _)) (pss_one (ps_ret (pe_tup (pa_cons (pv 3) (pa_cons (pe_fldK (K := K) rfl (pv 4)) (pa_cons (pv 5) pa_nil)))))) pss_nil)
      (pss_one (ps_expr (pmeth (E := E0) (ok_Play_perform c) (pv 2) (hr.mono (by decide)) passL (pa_cons (pv 4) pa_nil)))))))
      (pss_one (ps_ret pe_non)))), ?_⟩
  obtain ⟨t, q, z, a, xs, us, rfl, ht, hz, ha, hp, hwa, hlen, hQ⟩ := h
  refine ⟨_, rfl, mk_play ht hz fun p l g o ac H1 s1 hn1 hp1 => ?_⟩
  have hnm : ∀ m ∈ [l, g, o, ac], H m = none := fun m hm => hn1 m (List.mem_cons_of_mem _ hm)
  refine ⟨_, rfl, a, _, rfl, SqL.of (s1 _ _ ha), for_it walk_enum (fun i σ H' => ∃ (x y u : Option V) (r : Vbndaa.Room), σ = [some (.ref t), some (.ref a), some (.ref p), x, y, u] ∧ Same H H' ∧ PlayAt H' p t q l g o ac (Vbndaa.Session.mk r (xs.take i)) ∧ Wh i (Vbndaa.Session.mk r (xs.take i)) ∧ r.table = z ∧ Vbndaa.firstInvalidAction i r (xs.drop i) = Vbndaa.firstInvalidAction 0 (Vbndaa.newRoom z) xs)
    ⟨none, none, none, _, rfl, s1, hp1, wh_new hz, rfl, rfl⟩ (fun i σ H' _ ⟨_, _, _, _, _, s, _⟩ => SqL.of (s _ _ ha)) ?_ ?_⟩
  · rintro i v σ H2 H3 hi ⟨x0, y0, u0, r, rfl, s2, hp2, hw2, hrt, hf⟩ ⟨T, x, y, rfl, hT, rfl, hx, hy⟩
    obtain rfl : x = nv i := (Option.some.inj hx).symm
    obtain ⟨act, hact, aa, rfl, haa⟩ := pr_get hp hy
    have hil : i < xs.length := (List.getElem?_eq_some_iff.mp hact).1
    have s3 := s2.trans (Same.new (o := .tup [.int (i : Nat), .ref aa]) hT)
    have hp3 := hp2.same (Same.new (o := .tup [.int (i : Nat), .ref aa]) hT)
    refine ⟨T, _, rfl, SqT.of upd_same, rfl, _, _, rfl, _, _, rfl, rfl, ?_⟩
    obtain ⟨dxp, hpo⟩ := hp3.obj
    have hwx : Wa r.table act := by rw [hrt]; exact hwa act (List.mem_of_getElem? hact)
    refine ⟨_, rfl, p, _, _, rfl, hpo, rfl, _, rfl, p, t, q, l, g, o, ac, _, i, aa, act, rfl, hp3, hw2, haa.same s3, hwx, fun H4 s4 => ?_⟩
    have s34 := s3.trans s4
    rw [drop_at hact, first_cons] at hf
    refine ⟨_, rfl, rfl, _, rfl, ?_⟩
    cases hap : Vbndaa.applyAction r act with
    | error k =>
      rw [hap] at hf
      simp only at hf
      have hk := app_err hap
      have hrk : reasonOf r act = k := reason_err hap
      rw [hrk]
      refine ite2 (fun _ => ?_) (fun e => absurd (by
        show (!decide (nv k = V.int 0)) = true
        rw [decide_eq_false (show ¬ nv k = V.int 0 from fun e => hk (nv_inj (b := 0) e))]
        rfl) e)
      obtain ⟨dxa, b, hb1, hb2⟩ := haa.same s34
      refine ⟨_, rfl, _, rfl, aa, _, _, _, _, rfl, hb1, cl_Action c, na_Action_player c, rfl, _, rfl, by show 3 ≤ sizeLine; decide, fun T2 hT2 => ?_⟩
      rw [← hf] at hQ
      exact hQ T2 _ (s34.trans (Same.new hT2)) upd_same
    | ok r' =>
      rw [hap] at hf
      simp only at hf
      have hrk : reasonOf r act = 0 := reason_ok hap
      rw [hrk]
      refine ite2 (fun e => absurd e (by decide)) (fun _ => ?_)
      have hp4 := hp3.same s4
      obtain ⟨dxp4, hpo4⟩ := hp4.obj
      refine ⟨_, rfl, p, _, _, rfl, hpo4, rfl, _, rfl, p, t, q, l, g, o, ac, _, i, aa, act, r', rfl, hp4, hw2, by omega, haa.same (same_new s34 hnm), hwx, hap, fun H5 b5 hp5 => ?_⟩
      have s5 : Same H H5 := fun b u e => b5 b u (s34 _ _ e) fun q => by
        rw [hnm b q] at e
        cases e
      refine ⟨_, _, _, r', rfl, s5, ?_, ?_, (app_cases hap).1.trans hrt, hf⟩
      · rw [take_succ hact]
        exact hp5
      · rw [take_succ hact]
        exact wh_step hw2 hwx hap
  · rintro σ H2 ⟨x0, y0, u0, r, rfl, s2, hp2, hw2, hrt, hf⟩
    rw [hp.length, List.drop_of_length_le (Nat.le_refl _)] at hf
    have hf : none = _ := hf
    rw [← hf] at hQ
    exact hQ H2 s2
/-! #### two plays alike -/
def dl : Option (List Nat) → PyData
  | none => .none
  | some w => dw w
theorem dp_lay {H : Hp} : ∀ {vs : List V} {xs : List (Option (List Nat))}, Paired (RLay H) vs xs → DpAll K H vs (xs.map dl)
  | _, _, .nil => .nil
  | _, _, .cons (b := none) h t => by
    have h : _ = V.non := h
    subst h
    exact .cons .non (dp_lay t)
  | _, _, .cons (b := some w) ⟨a, e, h⟩ t => by
    subst e
    exact .cons (dp_w h) (dp_lay t)
end
theorem lay_dl : ∀ xs : List (Option (List Nat)), PyData.canLayAll0 (xs.map dl) = true
  | [] => rfl
  | none :: r => by
    show (PyData.canLay0 .none && PyData.canLayAll0 (r.map dl)) = true
    rw [lay_dl r]
    rfl
  | some w :: r => by
    show (PyData.canLay0 (dw w) && PyData.canLayAll0 (r.map dl)) = true
    rw [lay_dl r, lay_dw w]
    rfl
theorem dep_dl : ∀ xs : List (Option (List Nat)), PyData.depthAll (xs.map dl) ≤ 2
  | [] => by simp [PyData.depthAll]
  | none :: r => by
    have h := dep_dl r
    have h2 : (dl none).depth ≤ 2 := by simp [dl, PyData.depth]
    simp only [List.map_cons, PyData.depthAll]
    omega
  | some w :: r => by
    have h := dep_dl r
    have h2 : (dl (some w)).depth ≤ 2 := dep_dw w
    simp only [List.map_cons, PyData.depthAll]
    omega
theorem lay_ints : ∀ l : List Int, PyData.canLayAll0 (l.map dz) = true
  | [] => rfl
  | z :: r => by
    show (PyData.canLay0 (dz z) && PyData.canLayAll0 (r.map dz)) = true
    rw [lay_ints r]
    rfl
theorem dep_ints : ∀ l : List Int, PyData.depthAll (l.map dz) ≤ 2
  | [] => by simp [PyData.depthAll]
  | z :: r => by
    have h := dep_ints r
    have h2 : (dz z).depth ≤ 2 := by simp [dz, PyData.depth]
    simp only [List.map_cons, PyData.depthAll]
    omega
theorem lay_grs : ∀ l : List Vbndaa.Grant, PyData.canLayAll0 (l.map fun x => dg x.player x.position (rcvI x.recipient)) = true
  | [] => rfl
  | x :: r => by
    show (PyData.canLay0 (dg _ _ _) && PyData.canLayAll0 (r.map _)) = true
    rw [lay_grs r]
    rfl
theorem dep_grs : ∀ l : List Vbndaa.Grant, PyData.depthAll (l.map fun x => dg x.player x.position (rcvI x.recipient)) ≤ 2
  | [] => by simp [PyData.depthAll]
  | x :: r => by
    have h := dep_grs r
    have h2 : (dg x.player x.position (rcvI x.recipient)).depth ≤ 2 := by simp [dg, dn, PyData.depth, PyData.depthAll]
    simp only [List.map_cons, PyData.depthAll]
    omega
def dRoom (r : Vbndaa.Room) : PyData := .tuple [.list (r.permutations.map dl), .list (r.grants.map fun x => dg x.player x.position (rcvI x.recipient)), .list ((r.owners.map ow).map dz)]
theorem sh_room (r : Vbndaa.Room) : SeqAt.shaped (dRoom r) = true := by
  have h1 := lay_dl r.permutations
  have h2 := lay_grs r.grants
  have h3 := lay_ints (r.owners.map ow)
  have d1 := dep_dl r.permutations
  have d2 := dep_grs r.grants
  have d3 := dep_ints (r.owners.map ow)
  refine shaped_of ?_ ?_
  · show (PyData.canLayAll0 (r.permutations.map dl) && (PyData.canLayAll0 (r.grants.map fun x => dg x.player x.position (rcvI x.recipient)) && (PyData.canLayAll0 ((r.owners.map ow).map dz) && true))) = true
    rw [h1, h2, h3]
    rfl
  · simp only [dRoom, PyData.depth, PyData.depthAll]
    omega
section
variable {P : Program} {w : World} {K : PySem.W.Frag} {mg : Str → Option Value} {base : Heap}
theorem room_dp {H : Hp} {p t q l g o ac T : Addr} {h : Vbndaa.Session} (hp : PlayAt H p t q l g o ac h) (hT : H T = some (.tup [.ref l, .ref g, .ref o])) : Dp K H (.ref T) (dRoom h.room) := by
  obtain ⟨v1, h2, h3⟩ := hp.lay
  obtain ⟨v2, h4, h5⟩ := hp.grs
  exact .tup (SqT.of hT) (.cons (.lst (SqL.of h2) (dp_lay (Paired.mono (fun v e => rlay_mono _ _ v e drp_same) h3))) (.cons (.lst (SqL.of h4) (dp_gr (Paired.mono (fun v e => rgr_mono _ _ v e drp_same) h5))) (.cons (.lst (SqL.of hp.own) (dp_ints _)) .nil)))
theorem eqv_self {α : Type} (f : α → PyData) (h : ∀ x, PyData.eqv (f x) (f x) = true) : ∀ l : List α, PyData.eqvAll (l.map f) (l.map f) = true
  | [] => rfl
  | x :: r => by
    show (PyData.eqv (f x) (f x) && PyData.eqvAll (r.map f) (r.map f)) = true
    rw [h x, eqv_self f h r]
    rfl
theorem eqv_room (r : Vbndaa.Room) : PyData.eqv (dRoom r) (dRoom r) = true := by
  have h1 := eqv_self dl (fun x => by
    cases x with
    | none => rfl
    | some w =>
      show PyData.eqv (dw w) (dw w) = true
      rw [eqv_dw]
      simp) r.permutations
  have h2 := eqv_self (fun x : Vbndaa.Grant => dg x.player x.position (rcvI x.recipient)) (fun x => by
    rw [eqv_dg]
    simp) r.grants
  have h3 := eqv_self dz (fun x => by
    show (x == x) = true
    simp) (r.owners.map ow)
  show (PyData.eqvAll (r.permutations.map dl) (r.permutations.map dl) && (PyData.eqvAll (r.grants.map _) (r.grants.map _) && (PyData.eqvAll ((r.owners.map ow).map dz) ((r.owners.map ow).map dz) && true))) = true
  rw [h1, h2, h3]
  rfl
abbrev N_is_consistent : List Str := ["play", "again", "action"]
theorem sc_is_consistent : FnScope N_is_consistent ["play"] (defScope s_is_consistent) := ⟨rfl, rfl, rfl, by decide +kernel, rfl, by decide +kernel, by decide +kernel⟩
theorem ok_is_consistent (c : Ctx K mg) : OkF P w K mg base (L2.CX P w) 7 "is_consistent" ["play"] ((fun vs H Q _ => ∃ p t q l g o ac h m, vs = [.ref p] ∧ PlayAt H p t q l g o ac h ∧ Wh m h ∧ m ≤ 60000 ∧ RetV Q H (.bl true))) := by
  refine okF (f_is_consistent c) (g_is_consistent c) sc_is_consistent (fun _ _ _ _ _ _ us hl => match us, hl with | [_], _ => rfl) (fun vs H Q E h => by obtain ⟨p, t, q, l, g, o, ac, h, m, rfl, hp, hw, hm, hQ⟩ := h; rfl) fun cdv A outer s H vs Q E hr h => ⟨_, (pss_cons (ps_set (i := 1) sc_is_consistent.nd rfl (Or.inl rfl) (pmake (E := E0) (ok_Play_init c) (hr.mono (by decide)) passL (pa_cons (pe_fldK (K := K) rfl (pv 0)) pa_nil)))
      (pss_cons (ps_for PassesOwn.leaving rfl (pi_list (pe_fldK (K := K) rfl (pv 0))) (pg_name (i := 2) sc_is_consistent.nd rfl (Or.inl rfl)) (pss_cons (ps_if (pt_cmpR op_ne (pmeth (E := E0) (ok_Play_reason_against c) (pv 1) (hr.mono (by decide)) passL (pa_cons (pv 2) pa_nil)) (pgi (i_VALID c)) (nomark _)) (pss_one (ps_ret pe_bl)) pss_nil)
      (pss_one (ps_expr (pmeth (E := E0) (ok_Play_perform c) (pv 1) (hr.mono (by decide)) passL (pa_cons (pv 2) pa_nil))))))
      (pss_one (ps_ret (pe_cmpR (eqDK (K := K) rfl hr.units) (pe_tup (pa_cons (pe_fldK (K := K) rfl (pv 1)) (pa_cons (pe_fldK (K := K) rfl (pv 1)) (pa_cons (pe_fldK (K := K) rfl (pv 1)) pa_nil)))) (pe_tup (pa_cons (pe_fldK (K := K) rfl (pv 0)) (pa_cons (pe_fldK (K := K) rfl (pv 0)) (pa_cons (pe_fldK (K := K) rfl (pv 0)) pa_nil)))) (nomark _)))))), ?_⟩
  obtain ⟨p, t, q, l, g, o, ac, h, m, rfl, hp, hw, hm, hQ⟩ := h
  obtain ⟨dxp, hpo⟩ := hp.obj
  obtain ⟨as, c1, c2⟩ := hp.act
  refine ⟨_, rfl, p, _, _, _, _, rfl, hpo, cl_Play c, na_Play_table c, rfl, mk_play hp.tb hw.tab fun p2 l2 g2 o2 ac2 H1 s1 hn1 hp1 => ?_⟩
  have hnm : ∀ m ∈ [l2, g2, o2, ac2], H m = none := fun m hm => hn1 m (List.mem_cons_of_mem _ hm)
  refine ⟨_, rfl, p, _, _, _, _, rfl, s1 _ _ hpo, cl_Play c, na_Play_actions c, rfl, ac, rfl, ⟨_, SqL.of (s1 _ _ c1)⟩, for_list (K := K) (a := ac) (xs := as) (fun i σ H' => ∃ (x : Option V) (r : Vbndaa.Room), σ = [some (.ref p), some (.ref p2), x] ∧ Same H H' ∧ PlayAt H' p2 t q l2 g2 o2 ac2 (Vbndaa.Session.mk r (h.actions.take i)) ∧ Wh i (Vbndaa.Session.mk r (h.actions.take i)) ∧ r.table = h.room.table ∧ Vbndaa.firstInvalidAction i r (h.actions.drop i) = none ∧ Vbndaa.applyActions r (h.actions.drop i) = h.room)
    ⟨none, _, rfl, s1, hp1, wh_new hw.tab, rfl, hw.ok, hw.log⟩ (fun i σ H' _ ⟨_, _, _, s, _⟩ => SqL.of (s _ _ c1)) ?_ ?_⟩
  · rintro i v σ H2 hv ⟨x0, r, rfl, s2, hp2, hw2, hrt, hf, hl⟩
    obtain ⟨act, hact, aa, rfl, haa'⟩ := pr_get c2 hv
    have haa : ActAt H aa act := haa'.same drp_same
    have hil : i < h.actions.length := (List.getElem?_eq_some_iff.mp hact).1
    obtain ⟨dxp2, hpo2⟩ := hp2.obj
    have hwx : Wa r.table act := by rw [hrt]; exact hw.wa act (List.mem_of_getElem? hact)
    refine ⟨_, rfl, p2, _, _, rfl, hpo2, rfl, _, rfl, p2, t, q, l2, g2, o2, ac2, _, i, aa, act, rfl, hp2, hw2, haa.same s2, hwx, fun H4 s4 => ?_⟩
    have s34 := s2.trans s4
    rw [drop_at hact, first_cons] at hf
    rw [drop_at hact] at hl
    have hl : (match Vbndaa.applyAction r act with | .error _ => r | .ok t => Vbndaa.applyActions t (h.actions.drop (i + 1))) = h.room := hl
    refine ⟨rfl, _, rfl, ?_⟩
    cases hap : Vbndaa.applyAction r act with
    | error k =>
      rw [hap] at hf
      cases hf
    | ok r' =>
      rw [hap] at hf hl
      simp only at hf hl
      have hrk : reasonOf r act = 0 := reason_ok hap
      rw [hrk]
      refine ite2 (fun e => absurd e (by decide)) (fun _ => ?_)
      have hp4 := hp2.same s4
      obtain ⟨dxp4, hpo4⟩ := hp4.obj
      have hma := hw.acts
      refine ⟨_, rfl, p2, _, _, rfl, hpo4, rfl, _, rfl, p2, t, q, l2, g2, o2, ac2, _, i, aa, act, r', rfl, hp4, hw2, by omega, haa.same (same_new s34 hnm), hwx, hap, fun H5 b5 hp5 => ?_⟩
      have s5 : Same H H5 := fun b u e => b5 b u (s34 _ _ e) fun q => by
        rw [hnm b q] at e
        cases e
      refine ⟨_, r', rfl, s5, ?_, ?_, (app_cases hap).1.trans hrt, hf, hl⟩
      · rw [take_succ hact]
        exact hp5
      · rw [take_succ hact]
        exact wh_step hw2 hwx hap
  · rintro σ H2 ⟨x0, r, rfl, s2, hp2, hw2, hrt, hf, hl⟩
    rw [c2.length, List.drop_of_length_le (Nat.le_refl _)] at hl
    have hl : r = h.room := hl
    subst hl
    have hpe := hp.same s2
    obtain ⟨dx2, hpo2⟩ := hp2.obj
    refine ⟨_, rfl, p2, _, _, _, _, rfl, hpo2, cl_Play c, na_Play_layers c, rfl, _, rfl, p2, _, _, _, _, rfl, hpo2, cl_Play c, na_Play_grants c, rfl, _, rfl, p2, _, _, _, _, rfl, hpo2, cl_Play c, na_Play_owners c, rfl, by show 3 ≤ sizeLine; decide, fun T1 hT1 => ?_⟩
    have s3 := Same.new (o := .tup [.ref l2, .ref g2, .ref o2]) hT1
    have hpo3 := (s2.trans s3) _ _ hpo
    refine ⟨_, rfl, p, _, _, _, _, rfl, hpo3, cl_Play c, na_Play_layers c, rfl, _, rfl, p, _, _, _, _, rfl, hpo3, cl_Play c, na_Play_grants c, rfl, _, rfl, p, _, _, _, _, rfl, hpo3, cl_Play c, na_Play_owners c, rfl, by show 3 ≤ sizeLine; decide, fun T2 hT2 => ?_⟩
    have s4 := s3.trans (Same.new (o := .tup [.ref l, .ref g, .ref o]) hT2)
    refine ⟨dRoom h.room, dRoom h.room, room_dp (h := Vbndaa.Session.mk h.room (List.take as.length h.actions)) (hp2.same s4) ((upd_ne (ne_of_none upd_same hT2)).trans upd_same), room_dp (hpe.same s4) upd_same, sh_room _, sh_room _, ?_⟩
    rw [eqv_room]
    exact hQ _ (s2.trans s4)
end

end VD
namespace VD
open PySem PySem.Spec PyProof.Rows L2
/-- numbers -/
def RNv (_ : Hp) (v : V) (n : Nat) : Prop := v = nv n
theorem rnv_mono : ∀ (H H' : Hp) (v : V) (e : Nat), Same H H' → RNv H v e → RNv H' v e := fun _ _ _ _ _ h => h
theorem rnv_eq {H : Hp} : ∀ {vs : List V} {ns : List Nat}, Paired (RNv H) vs ns → vs = ns.map nv
  | _, _, .nil => rfl
  | _, _, .cons (h : _ = _) t => by rw [h, rnv_eq t]; rfl
theorem filter_yes {α : Type} {p : α → Bool} {l : List α} {i : Nat} {x : α} (h : l[i]? = some x) (hp : p x = true) : (l.take (i + 1)).filter p = (l.take i).filter p ++ [x] := by
  rw [take_succ h, List.filter_append, List.filter_cons_of_pos hp, List.filter_nil]
theorem filter_no {α : Type} {p : α → Bool} {l : List α} {i : Nat} {x : α} (h : l[i]? = some x) (hp : p x = false) : (l.take (i + 1)).filter p = (l.take i).filter p := by
  rw [take_succ h, List.filter_append, List.filter_cons_of_neg (by rw [hp]; decide), List.filter_nil, List.append_nil]
theorem filter_len {α : Type} {p : α → Bool} {l : List α} {i m : Nat} (h : l.length ≤ m) (hm : m < 16777216) : ((l.take i).filter p).length < 16777216 := by
  have := List.length_filter_le p (l.take i)
  rw [List.length_take] at this
  omega
theorem range_at {n i : Nat} (h : i < n) : (List.range n)[i]? = some i := List.getElem?_range h
theorem walk_rng0 {n : Nat} : Walk (Itr 0 n) n (fun _ => True) (fun i H x H' => H' = H ∧ x = nv i) := walk_range.mono (fun _ h => h) fun i H x H' _ _ y => ⟨y.1, by
  have := y.2
  rw [this]
  show V.int ((0 : Int) + (i : Nat)) = V.int (i : Nat)
  rw [Int.zero_add]⟩
theorem zero_int (i : Nat) : (0 : Int) + (i : Nat) = (i : Nat) := by omega
section
variable {P : Program} {w : World} {K : PySem.W.Frag} {mg : Str → Option Value} {base : Heap}
def mem6 (s : Nat) : List Nat := (List.range 6).filter (Vbndaa.isMember s)
theorem pow_at {i : Nat} (h : i < 6) : ([V.int 1, .int 2, .int 4, .int 8, .int 16, .int 32] : List V)[i]? = some (nv (2 ^ i)) := by
  match i, h with
  | 0, _ => rfl
  | 1, _ => rfl
  | 2, _ => rfl
  | 3, _ => rfl
  | 4, _ => rfl
  | 5, _ => rfl
abbrev N_members_of : List Str := ["coalition", "player", "power"]
theorem sc_members_of : FnScope N_members_of ["coalition"] (defScope s_members_of) := ⟨rfl, rfl, rfl, by decide +kernel, rfl, by decide +kernel, by decide +kernel⟩
theorem ok_members_of (c : Ctx K mg) : OkF P w K mg base (L2.CX P w) 1 "members_of" ["coalition"] ((fun vs H Q _ => ∃ s, vs = [nv s] ∧ RetN Q H (mem6 s))) := by
  refine okF (f_members_of c) (g_members_of c) sc_members_of (fun _ _ _ _ _ _ us hl => match us, hl with | [_], _ => rfl) (fun vs H Q E h => by obtain ⟨s0, rfl, hQ⟩ := h; rfl) fun cdv A outer s H vs Q E hr h => ⟨_, (pss_one (ps_ret (pe_lc (g := gTup K 2 (gCons (gName 1) (gCons (gName 2) gNil))) (own := [("player", 1), ("power", 2)]) rfl sc_members_of.nd (pi_enumT rfl (by rfl) (b_enumerate c) (pa_cons (pgr (g_POWERS c)) pa_nil)) (blkOk_by (own := [("player", 1), ("power", 2)]) (N := N_members_of) (sc := defScope s_members_of) (by decide +kernel)) (fun _ _ _ _ _ => (pg_tup rfl (pgs_cons (pg_name (i := 1) sc_members_of.nd rfl (Or.inl rfl) (hf := Or.inr (by rfl))) (pgs_cons (pg_name (i := 2) sc_members_of.nd rfl (Or.inl rfl) (hf := Or.inr (by rfl))) pgs_nil)))) (fun _ _ _ _ _ => pts_one (pt_cmpR op_eq (pe_op op_modN (pe_op op_fdivN (pv 0) (pv 2)) pe_int) pe_int (nomark _))) (fun _ _ _ _ _ => (pv 1))))), ?_⟩
  obtain ⟨s0, rfl, hQ⟩ := h
  refine ⟨t_POWERS, _, rfl, tp_500 c H, fun D hD => ?_⟩
  refine lcR walk_enumT RNv (fun i => ((List.range 6).take i).filter (Vbndaa.isMember s0)) rnv_mono hD rfl (fun H' s' => tp_500 c H') (fun i x H2 H3 hi p y => ?_) (fun H' us s' hd p => ?_)
  · obtain ⟨T, x1, x2, rfl, hT, rfl, hx, hy⟩ := y
    have hi6 : i < 6 := hi
    obtain rfl : x1 = nv i := (Option.some.inj hx).symm
    obtain rfl : x2 = nv (2 ^ i) := (Option.some.inj ((pow_at hi6).symm.trans hy)).symm
    have s3 := Same.new (o := .tup [.int (i : Nat), nv (2 ^ i)]) hT
    have hp2 : (2 : Nat) ^ i ≤ 32 := by
      have : 2 ^ i ≤ 2 ^ 5 := Nat.pow_le_pow_right (by decide) (by omega)
      omega
    have hp0 : 0 < (2 : Nat) ^ i := Nat.two_pow_pos i
    refine ⟨T, _, rfl, SqT.of upd_same, rfl, _, _, rfl, _, _, rfl, rfl, rfl, ?_⟩
    refine ⟨_, rfl, _, rfl, _, _, rfl, rfl, ⟨by omega, by omega⟩, _, _, rfl, rfl, show (2 : Int) ≠ 0 by decide, rfl, _, rfl, ?_⟩
    have e : decide (V.int (((s0 : Int).fdiv ((2 ^ i : Nat) : Int)).fmod 2) = V.int 1) = Vbndaa.isMember s0 i := by
      rw [fd_nat]
      have := fm_nat (s0 / 2 ^ i) 2
      have h2 : (((s0 / 2 ^ i : Nat) : Int).fmod 2) = ((s0 / 2 ^ i % 2 : Nat) : Int) := this
      rw [h2]
      unfold Vbndaa.isMember
      rw [Bool.eq_iff_iff, decide_eq_true_iff, beq_iff_eq]
      exact ⟨fun e => nv_inj (b := 1) e, fun e => by rw [e]; rfl⟩
    rw [e]
    cases hm : Vbndaa.isMember s0 i with
    | true => exact iteT ⟨_, rfl, p.yes rnv_mono s3 (filter_yes (range_at hi6) hm) rfl (filter_len (m := 6) (by simp) (by decide))⟩
    | false => exact iteF (p.no rnv_mono s3 (filter_no (range_at hi6) hm))
  · have p : Paired (RNv H') us (mem6 s0) := p
    rw [rnv_eq p] at hd
    exact hQ D H' s' hD hd
theorem hasGrant_eq (r : Vbndaa.Room) (p b q : Nat) : hasG r p b (q : Int) = Vbndaa.hasGrant r p b q := by
  unfold hasG Vbndaa.hasGrant
  congr 1
  funext x
  have := rcvI_eq x.recipient (some q)
  have h2 : decide (rcvI x.recipient = (q : Int)) = (x.recipient == some q) := this
  rw [h2]
theorem players_at {H : Hp} {p t q l g o ac : Addr} {h : Vbndaa.Session} (x : PlayAt H p t q l g o ac h) : ∃ dx dxt, H p = some (playO dx t l g o ac) ∧ H t = some (tableO dxt q h.room.table.deck.copies) := by
  obtain ⟨dx, h1⟩ := x.obj
  obtain ⟨_, _, dxt, h2, _⟩ := x.tb
  exact ⟨dx, dxt, h1, h2⟩
abbrev N_missing_grants : List Str := ["play", "player", "position", "others", "other"]
theorem sc_missing_grants : FnScope N_missing_grants ["play", "player", "position"] (defScope s_missing_grants) := ⟨rfl, rfl, rfl, by decide +kernel, rfl, by decide +kernel, by decide +kernel⟩
theorem ok_missing_grants (c : Ctx K mg) : OkF P w K mg base (L2.CX P w) 3 "missing_grants" ["play", "player", "position"] ((fun vs H Q _ => ∃ p t q l g o ac h i b, vs = [.ref p, nv i, nv b] ∧ PlayAt H p t q l g o ac h ∧ Wz h.room.table ∧ RetN Q H (Vbndaa.missingGrants h.room i b))) := by
  refine okF (f_missing_grants c) (g_missing_grants c) sc_missing_grants (fun _ _ _ _ _ _ us hl => match us, hl with | [_, _, _], _ => rfl) (fun vs H Q E h => by obtain ⟨p, t, q, l, g, o, ac, h, i, b, rfl, hp, hw, hQ⟩ := h; rfl) fun cdv A outer s H vs Q E hr h => ⟨_, (pss_cons (ps_setLc (i := 3) (g := gName 4) (own := [("other", 4)]) rfl sc_missing_grants.nd rfl rfl (sw_true rfl rfl rfl (by decide +kernel)) (pi_range1 (by rfl) (b_range c) (pa_cons (pmeth0 (E := E0) (ok_Table_player_count c) (pe_fldK (K := K) rfl (pv 0)) (hr.mono (by decide)) passL) pa_nil)) (blkOk_by (own := [("other", 4)]) (N := N_missing_grants) (sc := defScope s_missing_grants) (by decide +kernel)) (fun _ _ _ _ _ => (pg_name (i := 4) sc_missing_grants.nd rfl (Or.inl rfl) (hf := Or.inr (by rfl)))) (fun _ _ _ _ _ => pts_one (pt_cmpR op_ne (pv 4) (pv 1) (nomark _))) (fun _ _ _ _ _ => (pv 4)))
      (pss_one (ps_ret (pe_lc (g := gName 4) (own := [("other", 4)]) rfl sc_missing_grants.nd (pi_list (pv 3)) (blkOk_by (own := [("other", 4)]) (N := N_missing_grants) (sc := defScope s_missing_grants) (by decide +kernel)) (fun _ _ _ _ _ => (pg_name (i := 4) sc_missing_grants.nd rfl (Or.inl rfl) (hf := Or.inr (by rfl)))) (fun _ _ _ _ _ => pts_one (pt_not (pt_val (pmeth (E := E0) (ok_Play_has_granted c) (pv 0) (hr.mono (by decide)) passL (pa_cons (pv 4) (pa_cons (pv 2) (pa_cons (pv 1) pa_nil))))))) (fun _ _ _ _ _ => (pv 4)))))), ?_⟩
  obtain ⟨p, t, q, l, g, o, ac, h, i, b, rfl, hp, hw, hQ⟩ := h
  obtain ⟨dx, dxt, h1, h2⟩ := players_at hp
  obtain ⟨_, _, _, w4, _⟩ := id hw
  refine ⟨_, rfl, p, _, _, _, _, rfl, h1, cl_Play c, na_Play_table c, rfl, t, _, _, rfl, h2, rfl, t, q, _, rfl, hp.tb, _, rfl, by omega, by omega, fun D hD => ?_⟩
  rw [Int.toNat_natCast]
  refine lcR walk_rng0 RNv (fun k => ((List.range h.room.table.players.length).take k).filter fun x => decide (x ≠ i)) rnv_mono hD rfl (fun H' s' => trivial) (fun k x H2 H3 hi y z => ?_) (fun H' us s' hd y => ?_)
  · obtain ⟨rfl, rfl⟩ := z
    refine ⟨rfl, _, rfl, _, rfl, rfl, _, rfl, ?_⟩
    have hr := range_at hi
    by_cases e : k = i
    · subst e
      refine ite2 (fun e => absurd e (by simp)) (fun _ => ?_)
      exact y.no rnv_mono (Same.refl _) (filter_no hr (by simp))
    · refine ite2 (fun _ => ?_) (fun e2 => absurd (by
        show (!decide (nv k = nv i)) = true
        rw [decide_eq_false (fun z => e (nv_inj z))]
        rfl) e2)
      exact ⟨_, rfl, y.yes rnv_mono (Same.refl _) (filter_yes hr (by simpa using e)) rfl (filter_len (m := 6) (by rw [List.length_range]; exact w4) (by decide))⟩
  · have e1 : List.take h.room.table.players.length (List.range h.room.table.players.length) = List.range h.room.table.players.length := List.take_of_length_le (by rw [List.length_range]; exact Nat.le_refl _)
    rw [e1] at y
    rw [rnv_eq y] at hd
    generalize hos : (List.range h.room.table.players.length).filter (fun x => decide (x ≠ i)) = os at hd
    have hol : os.length ≤ 6 := by
      rw [← hos]
      have := List.length_filter_le (fun x => decide (x ≠ i)) (List.range h.room.table.players.length)
      rw [List.length_range] at this
      omega
    refine ⟨_, rfl, D, rfl, ⟨_, SqL.of hd⟩, fun D2 hD2 => ?_⟩
    refine lcR walk_list RNv (fun k => (os.take k).filter fun x => !Vbndaa.hasGrant h.room x b i) rnv_mono hD2 rfl (fun H3 s3 => SqL.of (s3 _ _ hd)) (fun k x H3 H4 hi y2 z => ?_) (fun H3 us3 s3 hd3 y3 => ?_)
    · obtain ⟨rfl, hx⟩ := z
      obtain ⟨n, hn, rfl⟩ := map_at hx
      have s4 := s'.trans y2.2.1
      refine ⟨rfl, _, rfl, p, _, _, rfl, s4 _ _ h1, rfl, _, rfl, _, rfl, _, rfl, p, t, q, l, g, o, ac, h, n, b, (i : Int), rfl, hp.same s4, fun H5 s5 => ⟨_, rfl, ?_⟩⟩
      rw [hasGrant_eq]
      cases hg : Vbndaa.hasGrant h.room n b i with
      | true => exact iteF (y2.no rnv_mono s5 (filter_no hn (by rw [hg]; rfl)))
      | false => exact iteT ⟨_, rfl, y2.yes rnv_mono s5 (filter_yes hn (by rw [hg]; rfl)) rfl (filter_len (m := 6) hol (by decide))⟩
    · rw [List.length_map, List.take_of_length_le (Nat.le_refl _)] at y3
      rw [rnv_eq y3] at hd3
      refine hQ D2 H3 (s'.trans s3) (s'.old hD2) ?_
      have em : os.filter (fun x => !Vbndaa.hasGrant h.room x b i) = Vbndaa.missingGrants h.room i b := by
        rw [← hos, List.filter_filter]
        unfold Vbndaa.missingGrants
        congr 1
        funext x
        by_cases e : x = i
        · simp [e]
        · simp [e]
      rw [em] at hd3
      exact hd3
theorem canSee_eq (r : Vbndaa.Room) (i b : Nat) : decide ((Vbndaa.missingGrants r i b).length = 0) = Vbndaa.canSee r i b := by
  unfold Vbndaa.missingGrants Vbndaa.canSee
  rw [Bool.eq_iff_iff, decide_eq_true_iff, List.all_eq_true]
  constructor
  · intro h x hx
    have h0 := List.filter_eq_nil_iff.mp (List.eq_nil_of_length_eq_zero h) x hx
    cases hg : (x == i || Vbndaa.hasGrant r x b i) with
    | true => rfl
    | false => rw [hg] at h0; exact absurd rfl h0
  · intro h
    rw [List.filter_eq_nil_iff.mpr fun x hx => ?_]
    · rfl
    · rw [h x hx]
      decide
abbrev N_can_see : List Str := ["play", "player", "position"]
theorem sc_can_see : FnScope N_can_see ["play", "player", "position"] (defScope s_can_see) := ⟨rfl, rfl, rfl, by decide +kernel, rfl, by decide +kernel, by decide +kernel⟩
theorem ok_can_see (c : Ctx K mg) : OkF P w K mg base (L2.CX P w) 4 "can_see" ["play", "player", "position"] ((fun vs H Q _ => ∃ p t q l g o ac h i b, vs = [.ref p, nv i, nv b] ∧ PlayAt H p t q l g o ac h ∧ Wz h.room.table ∧ RetV Q H (.bl (Vbndaa.canSee h.room i b)))) := by
  refine okF (f_can_see c) (g_can_see c) sc_can_see (fun _ _ _ _ _ _ us hl => match us, hl with | [_, _, _], _ => rfl) (fun vs H Q E h => by obtain ⟨p, t, q, l, g, o, ac, h, i, b, rfl, hp, hw, hQ⟩ := h; rfl) fun cdv A outer s H vs Q E hr h => ⟨_, (pss_one (ps_ret (pe_cmpR op_eq (pe_callB (lenK (K := K) rfl) (by rfl) (b_len c) boot_len (pa_cons (pcall (E := E0) (ok_missing_grants c) (hr.mono (by decide)) passL (pa_cons (pv 0) (pa_cons (pv 1) (pa_cons (pv 2) pa_nil)))) pa_nil)) pe_int (nomark _)))), ?_⟩
  obtain ⟨p, t, q, l, g, o, ac, h, i, b, rfl, hp, hw, hQ⟩ := h
  refine ⟨_, rfl, _, rfl, _, rfl, p, t, q, l, g, o, ac, h, i, b, rfl, hp, hw, fun D H1 s1 hD hd => ?_⟩
  refine ⟨D, _, rfl, .inl (SqL.of hd), rfl, ?_⟩
  have e : decide (V.int ((((Vbndaa.missingGrants h.room i b).map nv).length : Nat) : Int) = V.int 0) = Vbndaa.canSee h.room i b := by
    rw [← canSee_eq, List.length_map, Bool.eq_iff_iff, decide_eq_true_iff, decide_eq_true_iff]
    exact ⟨fun e => nv_inj (b := 0) e, fun e => by rw [e]; rfl⟩
  rw [e]
  exact hQ H1 s1
end

end VD
namespace VD
open PySem PySem.Spec PyProof.Rows L2
theorem atI_last {xs : List Nat} {n : Nat} : atI ((xs ++ [n]).map nv) (-1) = some (nv n) := by
  unfold atI ixN
  rw [if_neg (by decide), if_pos (by simp; omega), List.map_append]
  have e : ((-1 : Int) + (((xs.map nv ++ [n].map nv).length : Nat) : Int)).toNat = (xs.map nv).length := by
    simp only [List.length_append, List.length_map, List.length_cons, List.length_nil]
    omega
  rw [e]
  show (xs.map nv ++ [nv n])[(xs.map nv).length]? = some (nv n)
  simp
/-- down through the layers -/
def downTo (R : List (List Nat)) (b : Nat) : Nat := R.foldl (fun x o => o.getD x 0) b
theorem trace_snoc : ∀ (R : List (List Nat)) (b : Nat), ∃ xs, Vbndaa.traceFrom R b = xs ++ [downTo R b] ∧ ∀ o, Vbndaa.traceFrom (R ++ [o]) b = Vbndaa.traceFrom R b ++ [o.getD (downTo R b) 0]
  | [], b => ⟨[], rfl, fun o => rfl⟩
  | x :: R, b => by
    obtain ⟨xs, h1, h2⟩ := trace_snoc R (x.getD b 0)
    refine ⟨b :: xs, ?_, fun o => ?_⟩
    · show b :: Vbndaa.traceFrom R (x.getD b 0) = _
      rw [h1]
      rfl
    · show b :: Vbndaa.traceFrom (R ++ [o]) (x.getD b 0) = b :: Vbndaa.traceFrom R (x.getD b 0) ++ _
      rw [h2 o]
      rfl
theorem trace_len : ∀ (R : List (List Nat)) (b : Nat), (Vbndaa.traceFrom R b).length = R.length + 1
  | [], _ => rfl
  | x :: R, b => by
    show (Vbndaa.traceFrom R (x.getD b 0)).length + 1 = _
    rw [trace_len R]
    rfl
/-- layers all laid: permutations of n -/
structure Laid (n : Nat) (ps : List (Option (List Nat))) (qs : List (List Nat)) : Prop where
  eq : ps = qs.map some
  perm : ∀ w ∈ qs, Vbndaa.isPermutation n w = true
theorem Laid.lt {n : Nat} {ps : List (Option (List Nat))} {qs : List (List Nat)} (L : Laid n ps qs) {w : List Nat} (hw : w ∈ qs) : w.length = n ∧ ∀ a ∈ w, a < n := by
  obtain ⟨h1, h2, _⟩ := isPerm_iff.mp (L.perm w hw)
  exact ⟨h1, h2⟩
theorem laid_of {m : Nat} {h : Vbndaa.Session} (hw : Wh m h) (hs : Vbndaa.allSubmitted h.room = true) : Laid (Vbndaa.cardCount h.room.table) h.room.permutations (Vbndaa.permutationsOf h.room) := by
  have hall : ∀ o ∈ h.room.permutations, o.isSome = true := List.all_eq_true.mp hs
  have e : h.room.permutations = (Vbndaa.permutationsOf h.room).map some := by
    unfold Vbndaa.permutationsOf
    rw [List.map_map]
    refine (List.map_id _).symm.trans (List.map_congr_left fun o ho => ?_)
    have := hall o ho
    cases o with
    | none => cases this
    | some w => rfl
  refine ⟨e, fun w hm => hw.perm w ?_⟩
  rw [e]
  exact List.mem_map.mpr ⟨w, hm, rfl⟩
theorem getD_lt {n : Nat} {w : List Nat} (h1 : w.length = n) (h2 : ∀ a ∈ w, a < n) {b : Nat} (hb : b < n) : w.getD b 0 < n := h2 _ (List.mem_of_getElem? (getD_some (d := 0) (by omega)))
theorem down_lt {n : Nat} : ∀ {R : List (List Nat)} {b : Nat}, (∀ w ∈ R, w.length = n ∧ ∀ a ∈ w, a < n) → b < n → downTo R b < n
  | [], b, _, hb => hb
  | x :: R, b, h, hb => down_lt (R := R) (fun w hw => h w (by simp [hw])) (getD_lt (h x (by simp)).1 (h x (by simp)).2 hb)
/-- the layers as the loop from the last one sees them -/
theorem lay_at {H : Hp} {vs : List V} {qs : List (List Nat)} (hp : Paired (RLay H) vs (qs.map some)) {i : Nat} {v : V} (hv : vs[vs.length - 1 - i]? = some v) (hi : i < vs.length) : ∃ a w, v = .ref a ∧ LN H a w ∧ qs.reverse[i]? = some w := by
  have hl := hp.length
  rw [List.length_map] at hl
  obtain ⟨e, he, hr⟩ := pr_get hp hv
  rw [List.getElem?_map] at he
  have hrev : qs.reverse[i]? = qs[qs.length - 1 - i]? := List.getElem?_reverse (by omega)
  rw [hrev, ← hl]
  cases hq : qs[vs.length - 1 - i]? with
  | none => rw [hq] at he; cases he
  | some w =>
    rw [hq] at he
    cases he
    obtain ⟨a, h1, h2⟩ := hr
    exact ⟨a, w, h1, h2, rfl⟩
section
variable {P : Program} {w : World} {K : PySem.W.Frag} {mg : Str → Option Value} {base : Heap}
abbrev N_trace_of : List Str := ["play", "position", "found", "row"]
theorem sc_trace_of : FnScope N_trace_of ["play", "position"] (defScope s_trace_of) := ⟨rfl, rfl, rfl, by decide +kernel, rfl, by decide +kernel, by decide +kernel⟩
theorem ok_trace_of (c : Ctx K mg) : OkF P w K mg base (L2.CX P w) 1 "trace_of" ["play", "position"] ((fun vs H Q _ => ∃ p t q l g o ac h b n qs, vs = [.ref p, nv b] ∧ PlayAt H p t q l g o ac h ∧ Laid n h.room.permutations qs ∧ b < n ∧ qs.length ≤ 100000 ∧ RetN Q H (Vbndaa.traceFrom qs.reverse b))) := by
  refine okF (f_trace_of c) (g_trace_of c) sc_trace_of (fun _ _ _ _ _ _ us hl => match us, hl with | [_, _], _ => rfl) (fun vs H Q E h => by obtain ⟨p, t, q, l, g, o, ac, h, b, n, qs, rfl, hp, hL, hb, hz, hQ⟩ := h; rfl) fun cdv A outer s H vs Q E hr h => ⟨_, (pss_cons (ps_set (i := 2) sc_trace_of.nd rfl (Or.inl rfl) (pe_lst (pa_cons (pv 1) pa_nil)))
      (pss_cons (ps_for PassesOwn.leaving rfl (pi_reversed (by rfl) (b_reversed c) (pa_cons (pe_fldK (K := K) rfl (pv 0)) pa_nil)) (pg_name (i := 3) sc_trace_of.nd rfl (Or.inl rfl)) (pss_one (ps_expr (pe_bm PySem.F.plainAttrs_list PySem.F.slot_list_append PySem.F.type_list_append mt_append (pv 2) (pa_cons (pe_ix (ix_listK (K := K) rfl) (pv 3) (pe_ix (ix_listK (K := K) rfl) (pv 2) (pe_un un_neg pe_int) (fun _ _ => rfl)) (fun _ _ => rfl)) pa_nil)))))
      (pss_one (ps_ret (pv 2))))), ?_⟩
  obtain ⟨p, t, q, l, g, o, ac, h, b, n, qs, rfl, hp, hL, hb, hz, hQ⟩ := h
  obtain ⟨dx, h1⟩ := hp.obj
  obtain ⟨vs, l1, l2⟩ := hp.lay
  rw [hL.eq] at l2
  have hvl : vs.length = qs.length := by rw [l2.length, List.length_map]
  refine ⟨_, rfl, by show 1 ≤ sizeLine; decide, fun f hf => ?_⟩
  have s1 := Same.new (o := .lst [nv b]) hf
  have hfc : ∀ {H' : Hp}, Same H H' → H' p = some (playO dx t l g o ac) := fun s => s _ _ h1
  refine ⟨_, rfl, p, _, _, _, _, rfl, s1 _ _ h1, cl_Play c, na_Play_layers c, rfl, l, _, rfl, SqL.of (s1 _ _ l1), for_it walk_rev (fun i σ H' => ∃ x, σ = [some (.ref p), some (nv b), some (.ref f), x] ∧ Same H H' ∧ LN H' f (Vbndaa.traceFrom (qs.reverse.take i) b)) ⟨none, rfl, s1, upd_same⟩ (fun i σ H' _ ⟨_, _, s, _⟩ => SqL.of (s _ _ l1)) ?_ ?_⟩
  · rintro i v σ H2 H3 hi ⟨x0, rfl, s2, hl⟩ ⟨rfl, hv⟩
    obtain ⟨a, wd, rfl, ha, hw⟩ := lay_at l2 hv hi
    have ha2 := s2 _ _ (drp_of ha).1
    have hwm : wd ∈ qs := List.mem_reverse.mp (List.mem_of_getElem? hw)
    obtain ⟨xs, e1, e2⟩ := trace_snoc (qs.reverse.take i) b
    have hd : downTo (qs.reverse.take i) b < n := down_lt (fun w hm => hL.lt (List.mem_reverse.mp (List.mem_of_mem_take hm))) hb
    have hll := trace_len (qs.reverse.take i) b
    rw [List.length_take, List.length_reverse] at hll
    refine ⟨_, rfl, .inl ⟨rfl, _, SqL.of hl⟩, ?_⟩
    have hat : atI (wd.map nv) ((downTo (qs.reverse.take i) b : Nat) : Int) = some (nv (wd.getD (downTo (qs.reverse.take i) b) 0)) := atI_nat (by rw [List.getElem?_map, getD_some (d := 0) (by rw [(hL.lt hwm).1]; exact hd)]; rfl)
    refine ⟨_, rfl, _, rfl, _, rfl, f, _, -1, nv (downTo (qs.reverse.take i) b), rfl, rfl, SqL.of hl, by rw [e1]; exact atI_last, a, _, _, _, rfl, rfl, SqL.of ha2, hat, ?_⟩
    refine ⟨f, _, _, rfl, rfl, hl, by rw [sizeLine_eq, List.length_map, hll]; omega, _, rfl, s2.put hf, ?_⟩
    show upd _ f _ f = _
    rw [upd_same, take_succ hw, e2, List.map_append]
    rfl
  · rintro σ H2 ⟨x0, rfl, s2, hl⟩
    rw [hvl, List.take_of_length_le (by rw [List.length_reverse]; exact Nat.le_refl _)] at hl
    exact ⟨_, rfl, hQ f H2 s2 hf hl⟩
end

end VD
namespace VD
open PySem PySem.Spec PyProof.Rows L2
theorem list_ext_getD {l m : List Nat} (h : l.length = m.length) (e : ∀ i, i < l.length → l.getD i 0 = m.getD i 0) : l = m := by
  refine List.ext_getElem h fun i h1 h2 => ?_
  have := e i h1
  rw [List.getD_eq_getElem?_getD, List.getD_eq_getElem?_getD, List.getElem?_eq_getElem h1, List.getElem?_eq_getElem h2] at this
  exact this
theorem map_getD {l : List Nat} {f : Nat → Nat} {i : Nat} (h : i < l.length) : (l.map f).getD i 0 = f (l.getD i 0) := by
  rw [List.getD_eq_getElem?_getD, List.getElem?_map, List.getElem?_eq_getElem h, List.getD_eq_getElem?_getD, List.getElem?_eq_getElem h]
  rfl
theorem deal_is {n : Nat} : ∀ (qs : List (List Nat)), (∀ w ∈ qs, w.length = n ∧ ∀ a ∈ w, a < n) → (qs.foldl Vbndaa.compose (List.range n)) = (List.range n).map fun b => downTo qs.reverse b := by
  intro qs
  generalize hm : qs.length = m
  induction m generalizing qs with
  | zero =>
    intro _
    obtain rfl := List.eq_nil_of_length_eq_zero hm
    show List.range n = (List.range n).map fun b => b
    rw [List.map_id']
  | succ m ih =>
    intro h
    have hne : qs ≠ [] := fun e => by rw [e] at hm; cases hm
    obtain ⟨ps, o, rfl⟩ : ∃ ps o, qs = ps ++ [o] := ⟨qs.dropLast, qs.getLast hne, (List.dropLast_concat_getLast hne).symm⟩
    have hl : ps.length = m := by simpa using hm
    have ih := ih ps hl fun w hw => h w (by simp [hw])
    obtain ⟨ho1, ho2⟩ := h o (by simp)
    rw [List.foldl_append, ih]
    show o.map (fun a => ((List.range n).map fun b => downTo ps.reverse b).getD a 0) = _
    refine list_ext_getD (by rw [List.length_map, List.length_map, List.length_range, ho1]) fun i hi => ?_
    rw [List.length_map] at hi
    have hin : i < n := by omega
    have hog : o.getD i 0 < n := getD_lt ho1 ho2 hin
    rw [map_getD hi, map_getD (by rw [List.length_range]; exact hog), map_getD (by rw [List.length_range]; exact hin)]
    have r1 : (List.range n).getD (o.getD i 0) 0 = o.getD i 0 := by
      rw [List.getD_eq_getElem?_getD, List.getElem?_range hog]
      rfl
    have r2 : (List.range n).getD i 0 = i := by
      rw [List.getD_eq_getElem?_getD, List.getElem?_range hin]
      rfl
    rw [r1, r2, List.reverse_append]
    rfl
theorem trace_last (R : List (List Nat)) (b : Nat) : atI ((Vbndaa.traceFrom R b).map nv) (-1) = some (nv (downTo R b)) := by
  obtain ⟨xs, e, _⟩ := trace_snoc R b
  rw [e]
  exact atI_last
section
variable {P : Program} {w : World} {K : PySem.W.Frag} {mg : Str → Option Value} {base : Heap}
abbrev N_deal_of : List Str := ["play", "position"]
theorem sc_deal_of : FnScope N_deal_of ["play"] (defScope s_deal_of) := ⟨rfl, rfl, rfl, by decide +kernel, rfl, by decide +kernel, by decide +kernel⟩
theorem ok_deal_of (c : Ctx K mg) : OkF P w K mg base (L2.CX P w) 5 "deal_of" ["play"] ((fun vs H Q _ => ∃ p t q l g o ac h qs, vs = [.ref p] ∧ PlayAt H p t q l g o ac h ∧ Laid (Vbndaa.cardCount h.room.table) h.room.permutations qs ∧ Vbndaa.cardCount h.room.table ≤ 1000 ∧ qs.length ≤ 100000 ∧ RetN Q H (qs.foldl Vbndaa.compose (List.range (Vbndaa.cardCount h.room.table))))) := by
  refine okF (f_deal_of c) (g_deal_of c) sc_deal_of (fun _ _ _ _ _ _ us hl => match us, hl with | [_], _ => rfl) (fun vs H Q E h => by obtain ⟨p, t, q, l, g, o, ac, h, qs, rfl, hp, hL, hn, hz, hQ⟩ := h; rfl) fun cdv A outer s H vs Q E hr h => ⟨_, (pss_one (ps_ret (pe_lc (g := gName 1) (own := [("position", 1)]) rfl sc_deal_of.nd (pi_range1 (by rfl) (b_range c) (pa_cons (pmeth0 (E := E0) (ok_Table_card_count c) (pe_fldK (K := K) rfl (pv 0)) (hr.mono (by decide)) passL) pa_nil)) (blkOk_by (own := [("position", 1)]) (N := N_deal_of) (sc := defScope s_deal_of) (by decide +kernel)) (fun _ _ _ _ _ => (pg_name (i := 1) sc_deal_of.nd rfl (Or.inl rfl) (hf := Or.inr (by rfl)))) (fun _ _ _ _ _ => pts_nil) (fun _ _ _ _ _ => (pe_ix (ix_listK (K := K) rfl) (pcall (E := E0) (ok_trace_of c) (hr.mono (by decide)) passL (pa_cons (pv 0) (pa_cons (pv 1) pa_nil))) (pe_un un_neg pe_int) (fun _ _ => rfl)))))), ?_⟩
  obtain ⟨p, t, q, l, g, o, ac, h, qs, rfl, hp, hL, hn, hz, hQ⟩ := h
  rw [deal_is qs fun w hw => hL.lt hw] at hQ
  obtain ⟨dx, dxt, h1, h2⟩ := players_at hp
  refine ⟨_, rfl, p, _, _, _, _, rfl, h1, cl_Play c, na_Play_table c, rfl, t, _, _, rfl, h2, rfl, t, q, _, rfl, hp.tb, _, rfl, by unfold Vbndaa.cardCount at hn; omega, by unfold Vbndaa.cardCount at hn; omega, fun D hD => ?_⟩
  rw [Int.toNat_natCast]
  refine lcR walk_rng0 RNv (fun k => ((List.range (Vbndaa.deckSize h.room.table.deck)).take k).map fun b => downTo qs.reverse b) rnv_mono hD rfl (fun H' s' => trivial) (fun k x H2 H3 hi y z => ?_) (fun H' us s' hd y => ?_)
  · obtain ⟨rfl, rfl⟩ := z
    have s2 := y.2.1
    refine ⟨rfl, _, rfl, _, rfl, p, t, q, l, g, o, ac, h, k, Vbndaa.cardCount h.room.table, qs, rfl, hp.same s2, hL, hi, hz, fun f H4 s4 hf hl => ?_⟩
    refine ⟨_, rfl, f, _, -1, _, rfl, rfl, SqL.of hl, trace_last _ _, ?_⟩
    exact y.yes rnv_mono s4 (by rw [take_succ (range_at hi), List.map_append]; rfl) rfl (by rw [List.length_map, List.length_take, List.length_range]; unfold Vbndaa.cardCount at hn; omega)
  · rw [List.take_of_length_le (by rw [List.length_range]; exact Nat.le_refl _)] at y
    rw [rnv_eq y] at hd
    exact hQ D H' s' hD hd
theorem any_bl (f : Nat → Bool) (l : List Nat) : ((l.map fun n => f n).any id) = l.any f := by
  induction l with
  | nil => rfl
  | cons n r ih => rw [List.map_cons, List.any_cons, List.any_cons, ih]; rfl
abbrev N_is_seen : List Str := ["play", "members", "position", "member"]
theorem sc_is_seen : FnScope N_is_seen ["play", "members", "position"] (defScope s_is_seen) := ⟨rfl, rfl, rfl, by decide +kernel, rfl, by decide +kernel, by decide +kernel⟩
theorem ok_is_seen (c : Ctx K mg) : OkF P w K mg base (L2.CX P w) 5 "is_seen" ["play", "members", "position"] ((fun vs H Q _ => ∃ p t q l g o ac h a ms b, vs = [.ref p, .ref a, nv b] ∧ PlayAt H p t q l g o ac h ∧ Wz h.room.table ∧ LN H a ms ∧ ms.length ≤ 6 ∧ RetV Q H (.bl (ms.any fun i => Vbndaa.canSee h.room i b)))) := by
  refine okF (f_is_seen c) (g_is_seen c) sc_is_seen (fun _ _ _ _ _ _ us hl => match us, hl with | [_, _, _], _ => rfl) (fun vs H Q E h => by obtain ⟨p, t, q, l, g, o, ac, h, a, ms, b, rfl, hp, hw, ha, hm, hQ⟩ := h; rfl) fun cdv A outer s H vs Q E hr h => ⟨_, (pss_one (ps_ret (pe_callB (anyK (K := K) rfl rfl) (by rfl) (b_any c) (by decide +kernel) (pa_cons (pe_lc (g := gName 3) (own := [("member", 3)]) rfl sc_is_seen.nd (pi_list (pv 1)) (blkOk_by (own := [("member", 3)]) (N := N_is_seen) (sc := defScope s_is_seen) (by decide +kernel)) (fun _ _ _ _ _ => (pg_name (i := 3) sc_is_seen.nd rfl (Or.inl rfl) (hf := Or.inr (by rfl)))) (fun _ _ _ _ _ => pts_nil) (fun _ _ _ _ _ => (pcall (E := E0) (ok_can_see c) (hr.mono (by decide)) passL (pa_cons (pv 0) (pa_cons (pv 3) (pa_cons (pv 2) pa_nil)))))) pa_nil)))), ?_⟩
  obtain ⟨p, t, q, l, g, o, ac, h, a, ms, b, rfl, hp, hw, ha, hm, hQ⟩ := h
  refine ⟨_, rfl, a, rfl, ⟨_, SqL.of ha⟩, fun D hD => ?_⟩
  refine lcR walk_list RV0 (fun k => (ms.take k).map fun i => V.bl (Vbndaa.canSee h.room i b)) rv0_mono hD rfl (fun H' s' => SqL.of (s' _ _ ha)) (fun k x H2 H3 hi y z => ?_) (fun H' us s' hd y => ?_)
  · obtain ⟨rfl, hx⟩ := z
    obtain ⟨n, hn, rfl⟩ := map_at hx
    refine ⟨rfl, _, rfl, _, rfl, _, rfl, p, t, q, l, g, o, ac, h, n, b, rfl, hp.same y.2.1, hw, fun H4 s4 => ?_⟩
    exact y.yes rv0_mono s4 (by rw [take_succ hn, List.map_append]; rfl) rfl (by rw [List.length_map, List.length_take]; omega)
  · rw [rv0_eq y, List.length_map, List.take_of_length_le (Nat.le_refl _), bl_map] at hd
    refine ⟨D, _, rfl, SqL.of hd, ?_⟩
    rw [any_bl]
    exact hQ H' s'
def seenL (r : Vbndaa.Room) (ms : List Nat) : List Nat := (List.range (Vbndaa.cardCount r.table)).filter fun b => ms.any fun i => Vbndaa.canSee r i b
abbrev N_seen_positions : List Str := ["play", "members", "position"]
theorem sc_seen_positions : FnScope N_seen_positions ["play", "members"] (defScope s_seen_positions) := ⟨rfl, rfl, rfl, by decide +kernel, rfl, by decide +kernel, by decide +kernel⟩
theorem ok_seen_positions (c : Ctx K mg) : OkF P w K mg base (L2.CX P w) 6 "seen_positions" ["play", "members"] ((fun vs H Q _ => ∃ p t q l g o ac h a ms, vs = [.ref p, .ref a] ∧ PlayAt H p t q l g o ac h ∧ Wz h.room.table ∧ Vbndaa.cardCount h.room.table ≤ 1000 ∧ LN H a ms ∧ ms.length ≤ 6 ∧ RetN Q H (seenL h.room ms))) := by
  refine okF (f_seen_positions c) (g_seen_positions c) sc_seen_positions (fun _ _ _ _ _ _ us hl => match us, hl with | [_, _], _ => rfl) (fun vs H Q E h => by obtain ⟨p, t, q, l, g, o, ac, h, a, ms, rfl, hp, hw, hn, ha, hm, hQ⟩ := h; rfl) fun cdv A outer s H vs Q E hr h => ⟨_, (pss_one (ps_ret (pe_lc (g := gName 2) (own := [("position", 2)]) rfl sc_seen_positions.nd (pi_range1 (by rfl) (b_range c) (pa_cons (pmeth0 (E := E0) (ok_Table_card_count c) (pe_fldK (K := K) rfl (pv 0)) (hr.mono (by decide)) passL) pa_nil)) (blkOk_by (own := [("position", 2)]) (N := N_seen_positions) (sc := defScope s_seen_positions) (by decide +kernel)) (fun _ _ _ _ _ => (pg_name (i := 2) sc_seen_positions.nd rfl (Or.inl rfl) (hf := Or.inr (by rfl)))) (fun _ _ _ _ _ => pts_one (pt_val (pcall (E := E0) (ok_is_seen c) (hr.mono (by decide)) passL (pa_cons (pv 0) (pa_cons (pv 1) (pa_cons (pv 2) pa_nil)))))) (fun _ _ _ _ _ => (pv 2))))), ?_⟩
  obtain ⟨p, t, q, l, g, o, ac, h, a, ms, rfl, hp, hw, hn, ha, hm, hQ⟩ := h
  obtain ⟨dx, dxt, h1, h2⟩ := players_at hp
  refine ⟨_, rfl, p, _, _, _, _, rfl, h1, cl_Play c, na_Play_table c, rfl, t, _, _, rfl, h2, rfl, t, q, _, rfl, hp.tb, _, rfl, by unfold Vbndaa.cardCount at hn; omega, by unfold Vbndaa.cardCount at hn; omega, fun D hD => ?_⟩
  rw [Int.toNat_natCast]
  refine lcR walk_rng0 RNv (fun k => ((List.range (Vbndaa.deckSize h.room.table.deck)).take k).filter fun b => ms.any fun i => Vbndaa.canSee h.room i b) rnv_mono hD rfl (fun H' s' => trivial) (fun k x H2 H3 hi y z => ?_) (fun H' us s' hd y => ?_)
  · obtain ⟨rfl, rfl⟩ := z
    have s2 := y.2.1
    refine ⟨rfl, _, rfl, _, rfl, _, rfl, p, t, q, l, g, o, ac, h, a, ms, k, rfl, hp.same s2, hw, s2 _ _ ha, hm, fun H4 s4 => ⟨_, rfl, ?_⟩⟩
    cases hs : (ms.any fun i => Vbndaa.canSee h.room i k) with
    | true => exact iteT ⟨_, rfl, y.yes rnv_mono s4 (filter_yes (range_at hi) hs) rfl (filter_len (m := 1000) (by rw [List.length_range]; exact hn) (by decide))⟩
    | false => exact iteF (y.no rnv_mono s4 (filter_no (range_at hi) hs))
  · rw [List.take_of_length_le (by rw [List.length_range]; exact Nat.le_refl _)] at y
    rw [rnv_eq y] at hd
    exact hQ D H' s' hD hd
abbrev N_place_in_trace : List Str := ["play", "player"]
theorem sc_place_in_trace : FnScope N_place_in_trace ["play", "player"] (defScope s_place_in_trace) := ⟨rfl, rfl, rfl, by decide +kernel, rfl, by decide +kernel, by decide +kernel⟩
theorem ok_place_in_trace (c : Ctx K mg) : OkF P w K mg base (L2.CX P w) 3 "place_in_trace" ["play", "player"] ((fun vs H Q _ => ∃ p t q l g o ac h j, vs = [.ref p, nv j] ∧ PlayAt H p t q l g o ac h ∧ j < h.room.table.players.length ∧ Q (nv (h.room.table.players.length - 1 - j)) H)) := by
  refine okF (f_place_in_trace c) (g_place_in_trace c) sc_place_in_trace (fun _ _ _ _ _ _ us hl => match us, hl with | [_, _], _ => rfl) (fun vs H Q E h => by obtain ⟨p, t, q, l, g, o, ac, h, j, rfl, hp, hj, hQ⟩ := h; rfl) fun cdv A outer s H vs Q E hr h => ⟨_, (pss_one (ps_ret (pe_op op_sub (pe_op op_sub (pmeth0 (E := E0) (ok_Table_player_count c) (pe_fldK (K := K) rfl (pv 0)) (hr.mono (by decide)) passL) pe_int) (pv 1)))), ?_⟩
  obtain ⟨p, t, q, l, g, o, ac, h, j, rfl, hp, hj, hQ⟩ := h
  obtain ⟨dx, dxt, h1, h2⟩ := players_at hp
  refine ⟨_, rfl, p, _, _, _, _, rfl, h1, cl_Play c, na_Play_table c, rfl, t, _, _, rfl, h2, rfl, t, q, _, rfl, hp.tb, _, _, rfl, rfl, _, rfl, _, _, rfl, rfl, ?_⟩
  have e : nv (h.room.table.players.length - 1 - j) = V.int ((h.room.table.players.length : Int) - 1 - (j : Int)) := by
    unfold nv
    congr 1
    omega
  rw [e] at hQ
  exact hQ
end

end VD
namespace VD
open PySem PySem.Spec PyProof.Rows L2
section
variable {P : Program} {w : World} {K : PySem.W.Frag} {mg : Str → Option Value} {base : Heap}
theorem inV_nat (j : Nat) (ms : List Nat) : inV (nv j) (ms.map nv) = ms.contains j := by
  unfold inV
  induction ms with
  | nil => rfl
  | cons m r ih =>
    rw [List.map_cons, List.any_cons, ih, List.contains_cons]
    congr 1
    show ((m : Int) == (j : Int)) = (j == m)
    rw [Bool.eq_iff_iff, beq_iff_eq, beq_iff_eq]
    omega
theorem flat_nat (ms : List Nat) : (ms.map nv).all flatV = true := by
  rw [List.all_eq_true]
  intro v hv
  obtain ⟨m, _, rfl⟩ := List.mem_map.mp hv
  rfl
def ownP (o : List Nat) : List (Nat × Nat) := (List.range o.length).map fun i => (i, o.getD i 0)
def othP (R : List (List Nat)) (pl : Nat) (bs : List Nat) : List (Nat × Nat) := bs.map fun b => ((Vbndaa.traceFrom R b).getD pl 0, (Vbndaa.traceFrom R b).getD (pl + 1) 0)
def knP (r : Vbndaa.Room) (qs : List (List Nat)) (ms : List Nat) (j : Nat) : List (Nat × Nat) := if ms.contains j = true then ownP (qs.getD j []) else othP qs.reverse (r.table.players.length - 1 - j) (seenL r ms)
abbrev N_known_entries : List Str := ["play", "members", "player", "place", "traces", "position", "entry", "trace"]
theorem sc_known_entries : FnScope N_known_entries ["play", "members", "player"] (defScope s_known_entries) := ⟨rfl, rfl, rfl, by decide +kernel, rfl, by decide +kernel, by decide +kernel⟩
theorem ok_known_entries (c : Ctx K mg) : OkF P w K mg base (L2.CX P w) 7 "known_entries" ["play", "members", "player"] ((fun vs H Q _ => ∃ p t q l g o ac h qs a ms j m, vs = [.ref p, .ref a, nv j] ∧ PlayAt H p t q l g o ac h ∧ Wh m h ∧ Laid (Vbndaa.cardCount h.room.table) h.room.permutations qs ∧ LN H a ms ∧ ms.length ≤ 6 ∧ j < h.room.table.players.length ∧ RetR RP0 Q H (knP h.room qs ms j))) := by
  refine okF (f_known_entries c) (g_known_entries c) sc_known_entries (fun _ _ _ _ _ _ us hl => match us, hl with | [_, _, _], _ => rfl) (fun vs H Q E h => by obtain ⟨p, t, q, l, g, o, ac, h, qs, a, ms, j, m, rfl, hp, hw, hL, ha, hm, hj, hQ⟩ := h; rfl) fun cdv A outer s H vs Q E hr h => ⟨_, (pss_cons (ps_if (pt_cmpR (in_seqK (K := K) rfl) (pv 2) (pv 1) (by rfl)) (pss_one (ps_ret (pe_lc (g := gTup K 2 (gCons (gName 5) (gCons (gName 6) gNil))) (own := [("position", 5), ("entry", 6)]) rfl sc_known_entries.nd (pi_enum (by rfl) (b_enumerate c) (pa_cons (pe_ix (ix_listK (K := K) rfl) (pe_fldK (K := K) rfl (pv 0)) (pv 2) (fun _ _ => rfl)) pa_nil)) (blkOk_by (own := [("position", 5), ("entry", 6)]) (N := N_known_entries) (sc := defScope s_known_entries) (by decide +kernel)) (fun _ _ _ _ _ => (pg_tup rfl (pgs_cons (pg_name (i := 5) sc_known_entries.nd rfl (Or.inl rfl) (hf := Or.inr (by rfl))) (pgs_cons (pg_name (i := 6) sc_known_entries.nd rfl (Or.inl rfl) (hf := Or.inr (by rfl))) pgs_nil)))) (fun _ _ _ _ _ => pts_nil) (fun _ _ _ _ _ => (pe_tup (pa_cons (pv 5) (pa_cons (pv 6) pa_nil))))))) pss_nil)
      (pss_cons (ps_set (i := 3) sc_known_entries.nd rfl (Or.inr rfl) (pcall (E := E0) (ok_place_in_trace c) (hr.mono (by decide)) passL (pa_cons (pv 0) (pa_cons (pv 2) pa_nil))))
      (pss_cons (ps_setLc (i := 4) (g := gName 5) (own := [("position", 5)]) rfl sc_known_entries.nd rfl rfl (sw_true rfl rfl rfl (by decide +kernel)) (pi_list (pcall (E := E0) (ok_seen_positions c) (hr.mono (by decide)) passL (pa_cons (pv 0) (pa_cons (pv 1) pa_nil)))) (blkOk_by (own := [("position", 5)]) (N := N_known_entries) (sc := defScope s_known_entries) (by decide +kernel)) (fun _ _ _ _ _ => (pg_name (i := 5) sc_known_entries.nd rfl (Or.inl rfl) (hf := Or.inr (by rfl)))) (fun _ _ _ _ _ => pts_nil) (fun _ _ _ _ _ => (pcall (E := E0) (ok_trace_of c) (hr.mono (by decide)) passL (pa_cons (pv 0) (pa_cons (pv 5) pa_nil)))))
      (pss_one (ps_ret (pe_lc (g := gName 7) (own := [("trace", 7)]) rfl sc_known_entries.nd (pi_list (pv 4)) (blkOk_by (own := [("trace", 7)]) (N := N_known_entries) (sc := defScope s_known_entries) (by decide +kernel)) (fun _ _ _ _ _ => (pg_name (i := 7) sc_known_entries.nd rfl (Or.inl rfl) (hf := Or.inr (by rfl)))) (fun _ _ _ _ _ => pts_nil) (fun _ _ _ _ _ => (pe_tup (pa_cons (pe_ix (ix_listK (K := K) rfl) (pv 7) (pv 3) (fun _ _ => rfl)) (pa_cons (pe_ix (ix_listK (K := K) rfl) (pv 7) (pe_op op_add (pv 3) pe_int) (fun _ _ => rfl)) pa_nil)))))))))), ?_⟩
  obtain ⟨p, t, q, l, g, o, ac, h, qs, a, ms, j, m, rfl, hp, hw, hL, ha, hm, hj, hQ⟩ := h
  obtain ⟨dx, dxt, h1, h2⟩ := players_at hp
  obtain ⟨_, _, _, w4, _⟩ := hw.tab.1
  have hn : Vbndaa.cardCount h.room.table ≤ 52 := hw.tab.2.1
  have hql : qs.length = h.room.table.players.length := by
    have := hw.perms
    rw [hL.eq, List.length_map] at this
    exact this
  refine ⟨_, rfl, _, rfl, a, _, rfl, .inl (SqL.of ha), rfl, flat_nat ms, _, rfl, ?_⟩
  show (if (inV (nv j) (ms.map nv)) = true then _ else _)
  rw [inV_nat]
  unfold knP at hQ
  cases hc : ms.contains j with
  | true =>
    rw [hc, if_pos rfl] at hQ
    obtain ⟨vs, l1, l2⟩ := hp.lay
    rw [hL.eq] at l2
    have hqj : qs[j]? = some (qs.getD j []) := getD_at (by omega)
    have hqm := List.mem_of_getElem? hqj
    generalize qs.getD j [] = oj at hqj hqm hQ
    obtain ⟨v, hv, hr⟩ := pr_get' l2 (i := j) (b := some oj) (by rw [List.getElem?_map, hqj]; rfl)
    obtain ⟨b, rfl, hb⟩ := hr
    have hb' := (drp_of hb).1
    have hol := (hL.lt hqm).1
    refine iteT ⟨_, rfl, p, _, _, _, _, rfl, h1, cl_Play c, na_Play_layers c, rfl, _, rfl, l, _, (j : Int), _, rfl, rfl, SqL.of l1, atI_nat hv, b, _, rfl, SqL.of hb', fun D hD => ?_⟩
    refine lcR walk_enum RP0 (fun k => ((List.range oj.length).take k).map fun i => (i, oj.getD i 0)) rp0_mono hD rfl (fun H' s' => SqL.of (s' _ _ hb')) (fun k x H2 H3 hi y z => ?_) (fun H' us s' hd y => ?_)
    · obtain ⟨T, x1, x2, rfl, hT, rfl, hx, hy⟩ := z
      obtain rfl : x1 = nv k := (Option.some.inj hx).symm
      obtain ⟨n, hn2, rfl⟩ := map_at hy
      have hk : k < oj.length := by rw [List.length_map] at hi; exact hi
      have s3 := Same.new (o := .tup [.int (k : Nat), nv n]) hT
      have hgn : oj.getD k 0 = n := by rw [List.getD_eq_getElem?_getD, hn2]; rfl
      refine ⟨T, _, rfl, SqT.of upd_same, rfl, _, _, rfl, _, _, rfl, rfl, rfl, ?_⟩
      refine ⟨_, rfl, _, rfl, by show 2 ≤ sizeLine; decide, fun T2 hT2 => ?_⟩
      obtain ⟨_, _, vs0, hD3, _⟩ := id y
      refine y.yes rp0_mono (s3.trans (Same.new (o := .tup [nv k, nv n]) hT2)) (e := (k, oj.getD k 0)) (by rw [take_succ (range_at hk), List.map_append]; rfl) ⟨T2, rfl, drp_at (by rw [upd_same, hgn]) (by simpa using (ne_of_none (s3 _ _ hD3) hT2).symm)⟩ (by rw [List.length_map, List.length_take, List.length_range]; omega)
    · rw [List.length_map, List.take_of_length_le (by rw [List.length_range]; exact Nat.le_refl _)] at y
      exact hQ D H' us s' hD hd y
  | false =>
    rw [hc, if_neg (by decide)] at hQ
    have hsl : (seenL h.room ms).length ≤ 52 := by
      unfold seenL
      have := List.length_filter_le (fun b => ms.any fun i => Vbndaa.canSee h.room i b) (List.range (Vbndaa.cardCount h.room.table))
      rw [List.length_range] at this
      omega
    refine iteF ⟨_, rfl, _, rfl, p, t, q, l, g, o, ac, h, j, rfl, hp, hj, ?_⟩
    refine ⟨_, rfl, _, rfl, p, t, q, l, g, o, ac, h, a, ms, rfl, hp, hw.tab.1, by omega, ha, hm, fun S H1 s1 hS hs => ?_⟩
    refine ⟨S, rfl, ⟨_, SqL.of hs⟩, fun D hD => ?_⟩
    have hsn : ∀ b ∈ seenL h.room ms, b < Vbndaa.cardCount h.room.table := fun b hb => List.mem_range.mp (List.mem_filter.mp hb).1
    generalize seenL h.room ms = bs at hs hsl hsn hQ
    refine lcR walk_list RW0 (fun k => (bs.take k).map (Vbndaa.traceFrom qs.reverse)) rw0_mono hD rfl (fun H' s' => SqL.of (s' _ _ hs)) (fun k x H2 H3 hi y z => ?_) (fun H' us s' hd y => ?_)
    · obtain ⟨rfl, hx⟩ := z
      obtain ⟨b, hb, rfl⟩ := map_at hx
      have s3 := s1.trans y.2.1
      obtain ⟨_, _, vs0, hD3, _⟩ := id y
      refine ⟨rfl, _, rfl, _, rfl, p, t, q, l, g, o, ac, h, b, _, qs, rfl, hp.same s3, hL, hsn b (List.mem_of_getElem? hb), by omega, fun f H4 s4 hf hl => ?_⟩
      exact y.yes rw0_mono s4 (e := Vbndaa.traceFrom qs.reverse b) (by rw [take_succ hb, List.map_append]; rfl) ⟨f, rfl, drp_at hl (by simpa using (ne_of_none hD3 hf).symm)⟩ (by rw [List.length_map, List.length_take]; omega)
    · rw [List.length_map, List.take_of_length_le (Nat.le_refl _)] at y
      have s2 := s1.trans s'
      refine ⟨_, rfl, D, rfl, ⟨_, SqL.of hd⟩, fun D2 hD2 => ?_⟩
      refine lcR walk_list RP0 (fun k => othP qs.reverse (h.room.table.players.length - 1 - j) (bs.take k)) rp0_mono hD2 rfl (fun H3 s3 => SqL.of (s3 _ _ hd)) (fun k x H3 H4 hi y2 z => ?_) (fun H3 us3 s3 hd3 y3 => ?_)
      · obtain ⟨rfl, hx⟩ := z
        obtain ⟨tr, htr, b2, rfl, hb2⟩ := pr_get y hx
        obtain ⟨b, hb, rfl⟩ : ∃ b, bs[k]? = some b ∧ tr = Vbndaa.traceFrom qs.reverse b := by
          rw [List.getElem?_map] at htr
          cases e : bs[k]? with
          | none => rw [e] at htr; cases htr
          | some b => rw [e] at htr; exact ⟨b, rfl, (Option.some.inj htr).symm⟩
        have hb4 := y2.2.1 _ _ hb2
        have hll := trace_len qs.reverse b
        rw [List.length_reverse] at hll
        have g1 := getD_some (d := 0) (l := Vbndaa.traceFrom qs.reverse b) (i := h.room.table.players.length - 1 - j) (by omega)
        have g2 := getD_some (d := 0) (l := Vbndaa.traceFrom qs.reverse b) (i := h.room.table.players.length - 1 - j + 1) (by omega)
        refine ⟨rfl, _, rfl, _, rfl, b2, _, ((h.room.table.players.length - 1 - j : Nat) : Int), _, rfl, rfl, SqL.of hb4, atI_nat (by rw [List.getElem?_map, g1]; rfl), ?_⟩
        refine ⟨_, rfl, _, rfl, _, _, rfl, rfl, b2, _, ((h.room.table.players.length - 1 - j + 1 : Nat) : Int), _, rfl, rfl, SqL.of hb4, atI_nat (by rw [List.getElem?_map, g2]; rfl), by show 2 ≤ sizeLine; decide, fun T2 hT2 => ?_⟩
        obtain ⟨_, _, vs0, hD3, _⟩ := id y2
        exact y2.yes rp0_mono (Same.new hT2) (e := ((Vbndaa.traceFrom qs.reverse b).getD (h.room.table.players.length - 1 - j) 0, (Vbndaa.traceFrom qs.reverse b).getD (h.room.table.players.length - 1 - j + 1) 0)) (by unfold othP; rw [take_succ hb, List.map_append]; rfl) ⟨T2, rfl, drp_at upd_same (by simpa using (ne_of_none hD3 hT2).symm)⟩ (by unfold othP; rw [List.length_map, List.length_take]; omega)
      · rw [y.length, List.length_map, List.take_of_length_le (Nat.le_refl _)] at y3
        exact hQ D2 H3 us3 (s2.trans s3) (s2.old hD2) hd3 y3
abbrev N_card_below : List Str := ["play", "player", "entry", "here", "row"]
theorem sc_card_below : FnScope N_card_below ["play", "player", "entry"] (defScope s_card_below) := ⟨rfl, rfl, rfl, by decide +kernel, rfl, by decide +kernel, by decide +kernel⟩
theorem ok_card_below (c : Ctx K mg) : OkF P w K mg base (L2.CX P w) 1 "card_below" ["play", "player", "entry"] ((fun vs H Q _ => ∃ p t q l g o ac h n qs j e, vs = [.ref p, nv j, nv e] ∧ PlayAt H p t q l g o ac h ∧ Laid n h.room.permutations qs ∧ e < n ∧ j < qs.length ∧ qs.length ≤ 100000 ∧ RetV Q H (nv (downTo (qs.take j).reverse e)))) := by
  refine okF (f_card_below c) (g_card_below c) sc_card_below (fun _ _ _ _ _ _ us hl => match us, hl with | [_, _, _], _ => rfl) (fun vs H Q E h => by obtain ⟨p, t, q, l, g, o, ac, h, n, qs, j, e, rfl, hp, hL, he, hj, hz, hQ⟩ := h; rfl) fun cdv A outer s H vs Q E hr h => ⟨_, (pss_cons (ps_set (i := 3) sc_card_below.nd rfl (Or.inl rfl) (pv 2))
      (pss_cons (ps_for PassesOwn.leaving rfl (pi_reversed (by rfl) (b_reversed c) (pa_cons (pe_slice (sl_listK (K := K) rfl) (pe_fldK (K := K) rfl (pv 0)) po_none (po_some (pv 1))) pa_nil)) (pg_name (i := 4) sc_card_below.nd rfl (Or.inl rfl)) (pss_one (ps_set (i := 3) sc_card_below.nd rfl (Or.inl rfl) (pe_ix (ix_listK (K := K) rfl) (pv 4) (pv 3) (fun _ _ => rfl)))))
      (pss_one (ps_ret (pv 3))))), ?_⟩
  obtain ⟨p, t, q, l, g, o, ac, h, n, qs, j, e, rfl, hp, hL, he, hj, hz, hQ⟩ := h
  obtain ⟨dx, h1⟩ := hp.obj
  obtain ⟨vs, l1, l2⟩ := hp.lay
  rw [hL.eq] at l2
  have hvl : vs.length = qs.length := by rw [l2.length, List.length_map]
  have l3 : Paired (RLay (drp H [l, g, o, ac])) (vs.take j) ((qs.take j).map some) := by
    have := pr_take j l2
    rw [← List.map_take] at this
    exact this
  refine ⟨_, rfl, _, rfl, p, _, _, _, _, rfl, h1, cl_Play c, na_Play_layers c, rfl, _, rfl, _, rfl, l, _, rfl, SqL.of l1, fun S hS => ?_⟩
  have ec : cutV vs none (some (j : Int)) = vs.take j := by
    have := cutV_nat (xs := vs) (i := 0) (j := j) (Nat.zero_le _) (by omega)
    exact this
  rw [ec]
  have s1 := Same.new (o := .lst (vs.take j)) hS
  refine ⟨S, _, rfl, SqL.of upd_same, for_it walk_rev (fun i σ H' => ∃ x, σ = [some (.ref p), some (nv j), some (nv e), some (nv (downTo ((qs.take j).reverse.take i) e)), x] ∧ Same (upd H S (.lst (vs.take j))) H') ⟨none, rfl, Same.refl _⟩ (fun i σ H' _ ⟨_, _, s⟩ => SqL.of (s _ _ upd_same)) ?_ ?_⟩
  · rintro i v σ H2 H3 hi ⟨x0, rfl, s2⟩ ⟨rfl, hv⟩
    obtain ⟨a, wd, rfl, ha, hw⟩ := lay_at l3 hv hi
    have ha2 := (s1.trans s2) _ _ (drp_of ha).1
    have hwm : wd ∈ qs := List.mem_of_mem_take (List.mem_reverse.mp (List.mem_of_getElem? hw))
    have hd : downTo ((qs.take j).reverse.take i) e < n := down_lt (fun w hm => hL.lt (List.mem_of_mem_take (List.mem_reverse.mp (List.mem_of_mem_take hm)))) he
    have hat : atI (wd.map nv) ((downTo ((qs.take j).reverse.take i) e : Nat) : Int) = some (nv (wd.getD (downTo ((qs.take j).reverse.take i) e) 0)) := atI_nat (by rw [List.getElem?_map, getD_some (d := 0) (by rw [(hL.lt hwm).1]; exact hd)]; rfl)
    refine ⟨_, rfl, _, rfl, a, _, _, _, rfl, rfl, SqL.of ha2, hat, some (.ref a), ?_, s2⟩
    rw [take_succ hw]
    unfold downTo
    rw [List.foldl_append]
    rfl
  · rintro σ H2 ⟨x0, rfl, s2⟩
    have e1 : (qs.take j).reverse.take (vs.take j).length = (qs.take j).reverse := List.take_of_length_le (by rw [List.length_reverse, List.length_take, List.length_take]; omega)
    rw [e1]
    exact ⟨_, rfl, hQ H2 (s1.trans s2)⟩
end

end VD
namespace VD
open PySem PySem.Spec PyProof.Rows L2
theorem trace_lt {n : Nat} : ∀ {R : List (List Nat)} {b : Nat}, (∀ w ∈ R, w.length = n ∧ ∀ a ∈ w, a < n) → b < n → ∀ x ∈ Vbndaa.traceFrom R b, x < n
  | [], b, _, hb, x, hx => by
    obtain rfl : x = b := by simpa [Vbndaa.traceFrom] using hx
    exact hb
  | o :: R, b, h, hb, x, hx => by
    have hx : x ∈ b :: Vbndaa.traceFrom R (o.getD b 0) := hx
    rcases List.mem_cons.mp hx with e | e
    · rw [e]; exact hb
    · exact trace_lt (R := R) (fun w hw => h w (by simp [hw])) (getD_lt (h o (by simp)).1 (h o (by simp)).2 hb) x e
theorem knP_lt {m : Nat} {h : Vbndaa.Session} {qs : List (List Nat)} {ms : List Nat} {j : Nat} (hw : Wh m h) (hL : Laid (Vbndaa.cardCount h.room.table) h.room.permutations qs) (hj : j < h.room.table.players.length) : ∀ x ∈ knP h.room qs ms j, x.1 < Vbndaa.cardCount h.room.table ∧ x.2 < Vbndaa.cardCount h.room.table := by
  have hql : qs.length = h.room.table.players.length := by
    have := hw.perms
    rw [hL.eq, List.length_map] at this
    exact this
  intro x hx
  unfold knP at hx
  split at hx
  · have hqm : qs.getD j [] ∈ qs := List.mem_of_getElem? (getD_at (by omega))
    obtain ⟨l1, l2⟩ := hL.lt hqm
    obtain ⟨i, hi, rfl⟩ := List.mem_map.mp hx
    have hi := List.mem_range.mp hi
    exact ⟨by show i < _; omega, getD_lt l1 l2 (by omega)⟩
  · obtain ⟨b, hb, rfl⟩ := List.mem_map.mp hx
    have hbn : b < Vbndaa.cardCount h.room.table := List.mem_range.mp (List.mem_filter.mp hb).1
    have ht := trace_lt (R := qs.reverse) (fun w hm => hL.lt (List.mem_reverse.mp hm)) hbn
    have hll := trace_len qs.reverse b
    rw [List.length_reverse] at hll
    exact ⟨ht _ (List.mem_of_getElem? (getD_some (d := 0) (by omega))), ht _ (List.mem_of_getElem? (getD_some (d := 0) (by omega)))⟩
theorem knP_len {m : Nat} {h : Vbndaa.Session} {qs : List (List Nat)} {ms : List Nat} {j : Nat} (hw : Wh m h) (hL : Laid (Vbndaa.cardCount h.room.table) h.room.permutations qs) (hj : j < h.room.table.players.length) : (knP h.room qs ms j).length ≤ 52 := by
  have hql : qs.length = h.room.table.players.length := by
    have := hw.perms
    rw [hL.eq, List.length_map] at this
    exact this
  have hn : Vbndaa.cardCount h.room.table ≤ 52 := hw.tab.2.1
  unfold knP
  split
  · have hqm : qs.getD j [] ∈ qs := List.mem_of_getElem? (getD_at (by omega))
    unfold ownP
    rw [List.length_map, List.length_range, (hL.lt hqm).1]
    exact hn
  · unfold othP seenL
    rw [List.length_map]
    have := List.length_filter_le (fun b => ms.any fun i => Vbndaa.canSee h.room i b) (List.range (Vbndaa.cardCount h.room.table))
    rw [List.length_range] at this
    omega
def posP (r : Vbndaa.Room) (qs : List (List Nat)) (ms : List Nat) (j b : Nat) : List Nat :=
  if ((knP r qs ms j).map (·.1)).contains ((Vbndaa.traceFrom qs.reverse b).getD (r.table.players.length - 1 - j) 0) = true then [downTo qs.reverse b]
  else (List.range (Vbndaa.cardCount r.table)).filter fun c => !((knP r qs ms j).map fun y => downTo (qs.take j).reverse y.2).contains c
section
variable {P : Program} {w : World} {K : PySem.W.Frag} {mg : Str → Option Value} {base : Heap}
abbrev N_possible_cards : List Str := ["play", "members", "player", "position", "trace", "known", "away", "pair", "card"]
theorem sc_possible_cards : FnScope N_possible_cards ["play", "members", "player", "position"] (defScope s_possible_cards) := ⟨rfl, rfl, rfl, by decide +kernel, rfl, by decide +kernel, by decide +kernel⟩
theorem ok_possible_cards (c : Ctx K mg) : OkF P w K mg base (L2.CX P w) 8 "possible_cards" ["play", "members", "player", "position"] ((fun vs H Q _ => ∃ p t q l g o ac h qs a ms j b m, vs = [.ref p, .ref a, nv j, nv b] ∧ PlayAt H p t q l g o ac h ∧ Wh m h ∧ Laid (Vbndaa.cardCount h.room.table) h.room.permutations qs ∧ LN H a ms ∧ ms.length ≤ 6 ∧ j < h.room.table.players.length ∧ b < Vbndaa.cardCount h.room.table ∧ RetN Q H (posP h.room qs ms j b))) := by
  refine okF (f_possible_cards c) (g_possible_cards c) sc_possible_cards (fun _ _ _ _ _ _ us hl => match us, hl with | [_, _, _, _], _ => rfl) (fun vs H Q E h => by obtain ⟨p, t, q, l, g, o, ac, h, qs, a, ms, j, b, m, rfl, hp, hw, hL, ha, hm, hj, hb, hQ⟩ := h; rfl) fun cdv A outer s H vs Q E hr h => ⟨_, (pss_cons (ps_set (i := 4) sc_possible_cards.nd rfl (Or.inl rfl) (pcall (E := E0) (ok_trace_of c) (hr.mono (by decide)) passL (pa_cons (pv 0) (pa_cons (pv 3) pa_nil))))
      (pss_cons (ps_set (i := 5) sc_possible_cards.nd rfl (Or.inl rfl) (pcall (E := E0) (ok_known_entries c) (hr.mono (by decide)) passL (pa_cons (pv 0) (pa_cons (pv 1) (pa_cons (pv 2) pa_nil)))))
      (pss_cons (ps_if (pt_cmpR (in_seqK (K := K) rfl) (pe_ix (ix_listK (K := K) rfl) (pv 4) (pcall (E := E0) (ok_place_in_trace c) (hr.mono (by decide)) passL (pa_cons (pv 0) (pa_cons (pv 2) pa_nil))) (fun _ _ => rfl)) (pe_lc (g := gName 7) (own := [("pair", 7)]) rfl sc_possible_cards.nd (pi_list (pv 5)) (blkOk_by (own := [("pair", 7)]) (N := N_possible_cards) (sc := defScope s_possible_cards) (by decide +kernel)) (fun _ _ _ _ _ => (pg_name (i := 7) sc_possible_cards.nd rfl (Or.inl rfl) (hf := Or.inr (by rfl)))) (fun _ _ _ _ _ => pts_nil) (fun _ _ _ _ _ => (pe_ix (ix_tupK (K := K) rfl) (pv 7) pe_int (fun _ _ => rfl)))) (by rfl)) (pss_one (ps_ret (pe_lst (pa_cons (pe_ix (ix_listK (K := K) rfl) (pv 4) (pe_un un_neg pe_int) (fun _ _ => rfl)) pa_nil)))) pss_nil)
      (pss_cons (ps_set (i := 6) sc_possible_cards.nd rfl (Or.inr rfl) (pe_lc (g := gName 7) (own := [("pair", 7)]) rfl sc_possible_cards.nd (pi_list (pv 5)) (blkOk_by (own := [("pair", 7)]) (N := N_possible_cards) (sc := defScope s_possible_cards) (by decide +kernel)) (fun _ _ _ _ _ => (pg_name (i := 7) sc_possible_cards.nd rfl (Or.inl rfl) (hf := Or.inr (by rfl)))) (fun _ _ _ _ _ => pts_nil) (fun _ _ _ _ _ => (pcall (E := E0) (ok_card_below c) (hr.mono (by decide)) passL (pa_cons (pv 0) (pa_cons (pv 2) (pa_cons (pe_ix (ix_tupK (K := K) rfl) (pv 7) pe_int (fun _ _ => rfl)) pa_nil)))))))
      (pss_one (ps_ret (pe_lc (g := gName 8) (own := [("card", 8)]) rfl sc_possible_cards.nd (pi_range1 (by rfl) (b_range c) (pa_cons (pmeth0 (E := E0) (ok_Table_card_count c) (pe_fldK (K := K) rfl (pv 0)) (hr.mono (by decide)) passL) pa_nil)) (blkOk_by (own := [("card", 8)]) (N := N_possible_cards) (sc := defScope s_possible_cards) (by decide +kernel)) (fun _ _ _ _ _ => (pg_name (i := 8) sc_possible_cards.nd rfl (Or.inl rfl) (hf := Or.inr (by rfl)))) (fun _ _ _ _ _ => pts_one (pt_cmpR (notIn_seqK (K := K) rfl) (pv 8) (pv 6) (by rfl))) (fun _ _ _ _ _ => (pv 8))))))))), ?_⟩
  obtain ⟨p, t, q, l, g, o, ac, h, qs, a, ms, j, b, m, rfl, hp, hw, hL, ha, hm, hj, hb, hQ⟩ := h
  obtain ⟨dx, dxt, h1, h2⟩ := players_at hp
  obtain ⟨_, _, _, w4, _⟩ := hw.tab.1
  have hn : Vbndaa.cardCount h.room.table ≤ 52 := hw.tab.2.1
  have hql : qs.length = h.room.table.players.length := by
    have := hw.perms
    rw [hL.eq, List.length_map] at this
    exact this
  have hlt := knP_lt (ms := ms) hw hL hj
  have hkl := knP_len (ms := ms) hw hL hj
  unfold posP at hQ
  refine ⟨_, rfl, _, rfl, p, t, q, l, g, o, ac, h, b, _, qs, rfl, hp, hL, hb, by omega, fun tr H1 s1 htr htl => ?_⟩
  refine ⟨_, rfl, _, rfl, _, rfl, p, t, q, l, g, o, ac, h, qs, a, ms, j, m, rfl, hp.same s1, hw, hL, s1 _ _ ha, hm, hj, fun kn H2 ks s2 hkn hks hkp => ?_⟩
  generalize knP h.room qs ms j = kp at hkp hlt hkl hQ
  have s12 := s1.trans s2
  have hll := trace_len qs.reverse b
  rw [List.length_reverse] at hll
  have g1 := getD_some (d := 0) (l := Vbndaa.traceFrom qs.reverse b) (i := h.room.table.players.length - 1 - j) (by omega)
  refine ⟨_, rfl, _, rfl, _, rfl, p, t, q, l, g, o, ac, h, j, rfl, hp.same s12, hj, tr, _, _, _, rfl, rfl, SqL.of (s2 _ _ htl), atI_nat (by rw [List.getElem?_map, g1]; rfl), ?_⟩
  refine ⟨_, rfl, kn, rfl, ⟨_, SqL.of hks⟩, fun D hD => ?_⟩
  refine lcR walk_list RNv (fun k => (kp.take k).map (·.1)) rnv_mono hD rfl (fun H' s' => SqL.of (s' _ _ hks)) (fun k x H3 H4 hi y z => ?_) (fun H3 us s3 hd y => ?_)
  · obtain ⟨rfl, hx⟩ := z
    obtain ⟨pr, hpr, T, rfl, hT⟩ := pr_get hkp hx
    refine ⟨rfl, _, rfl, T, _, (0 : Nat), _, rfl, rfl, SqT.of (y.2.1 _ _ hT), atI_nat rfl, ?_⟩
    exact y.yes rnv_mono (Same.refl _) (e := pr.1) (by rw [take_succ hpr, List.map_append]; rfl) rfl (by rw [List.length_map, List.length_take]; omega)
  · rw [hkp.length, List.take_of_length_le (Nat.le_refl _)] at y
    obtain rfl := rnv_eq y
    have s13 := s12.trans s3
    refine ⟨D, _, rfl, .inl (SqL.of hd), rfl, flat_nat _, _, rfl, ?_⟩
    show (if (inV (nv _) ((kp.map (·.1)).map nv)) = true then _ else _)
    rw [inV_nat]
    cases hc : (kp.map (·.1)).contains ((Vbndaa.traceFrom qs.reverse b).getD (h.room.table.players.length - 1 - j) 0) with
    | true =>
      rw [hc, if_pos rfl] at hQ
      refine iteT ⟨_, rfl, _, rfl, tr, _, -1, _, rfl, rfl, SqL.of (s3 _ _ (s2 _ _ htl)), trace_last _ _, by show 1 ≤ sizeLine; decide, fun f hf => ?_⟩
      exact hQ f _ (s13.trans (Same.new hf)) (s13.old hf) upd_same
    | false =>
      rw [hc, if_neg (by decide)] at hQ
      refine iteF ⟨_, rfl, kn, rfl, ⟨_, SqL.of (s3 _ _ hks)⟩, fun D2 hD2 => ?_⟩
      have hkp3 : Paired (RP0 H3) ks kp := Paired.mono (fun v e => rp0_mono _ _ v e s3) hkp
      refine lcR walk_list RNv (fun k => (kp.take k).map fun y => downTo (qs.take j).reverse y.2) rnv_mono hD2 rfl (fun H' s' => SqL.of (s' _ _ (s3 _ _ hks))) (fun k x H4 H5 hi y2 z => ?_) (fun H4 us4 s4 hd4 y4 => ?_)
      · obtain ⟨rfl, hx⟩ := z
        obtain ⟨pr, hpr, T, rfl, hT⟩ := pr_get hkp3 hx
        have s5 := s13.trans y2.2.1
        refine ⟨rfl, _, rfl, _, rfl, _, rfl, T, _, (1 : Nat), _, rfl, rfl, SqT.of (y2.2.1 _ _ hT), atI_nat rfl, p, t, q, l, g, o, ac, h, _, qs, j, pr.2, rfl, hp.same s5, hL, (hlt pr (List.mem_of_getElem? hpr)).2, by omega, by omega, fun H6 s6 => ?_⟩
        exact y2.yes rnv_mono s6 (e := downTo (qs.take j).reverse pr.2) (by rw [take_succ hpr, List.map_append]; rfl) rfl (by rw [List.length_map, List.length_take]; omega)
      · rw [hkp.length, List.take_of_length_le (Nat.le_refl _)] at y4
        obtain rfl := rnv_eq y4
        generalize (kp.map fun y => downTo (qs.take j).reverse y.2) = aw at hd4 hQ
        have s14 := s13.trans s4
        refine ⟨_, rfl, p, _, _, _, _, rfl, s14 _ _ h1, cl_Play c, na_Play_table c, rfl, t, _, _, rfl, s14 _ _ h2, rfl, t, q, _, rfl, hp.tb.same s14, _, rfl, by unfold Vbndaa.cardCount at hn; omega, by unfold Vbndaa.cardCount at hn; omega, fun D3 hD3 => ?_⟩
        rw [Int.toNat_natCast]
        refine lcR walk_rng0 RNv (fun k => ((List.range (Vbndaa.deckSize h.room.table.deck)).take k).filter fun c => !aw.contains c) rnv_mono hD3 rfl (fun H' s' => trivial) (fun k x H5 H6 hi y5 z => ?_) (fun H5 us5 s5 hd5 y5 => ?_)
        · obtain ⟨rfl, rfl⟩ := z
          refine ⟨rfl, _, rfl, _, rfl, D2, _, rfl, .inl (SqL.of (y5.2.1 _ _ hd4)), rfl, flat_nat _, _, rfl, ?_⟩
          show (if (!inV (nv k) (aw.map nv)) = true then _ else _)
          rw [inV_nat]
          cases hcc : aw.contains k with
          | true => exact iteF (y5.no rnv_mono (Same.refl _) (filter_no (range_at hi) (by rw [hcc]; rfl)))
          | false => exact iteT ⟨_, rfl, y5.yes rnv_mono (Same.refl _) (filter_yes (range_at hi) (by rw [hcc]; rfl)) rfl (filter_len (m := 1000) (by rw [List.length_range]; unfold Vbndaa.cardCount at hn; omega) (by decide))⟩
        · rw [List.take_of_length_le (by rw [List.length_range]; exact Nat.le_refl _)] at y5
          rw [rnv_eq y5] at hd5
          exact hQ D3 H5 (s14.trans s5) (s14.old hD3) hd5
abbrev N_open_count : List Str := ["play", "members", "player"]
theorem sc_open_count : FnScope N_open_count ["play", "members", "player"] (defScope s_open_count) := ⟨rfl, rfl, rfl, by decide +kernel, rfl, by decide +kernel, by decide +kernel⟩
theorem ok_open_count (c : Ctx K mg) : OkF P w K mg base (L2.CX P w) 8 "open_count" ["play", "members", "player"] ((fun vs H Q _ => ∃ p t q l g o ac h qs a ms j m, vs = [.ref p, .ref a, nv j] ∧ PlayAt H p t q l g o ac h ∧ Wh m h ∧ Laid (Vbndaa.cardCount h.room.table) h.room.permutations qs ∧ LN H a ms ∧ ms.length ≤ 6 ∧ j < h.room.table.players.length ∧ RetV Q H (.int ((Vbndaa.cardCount h.room.table : Int) - ((knP h.room qs ms j).length : Int))))) := by
  refine okF (f_open_count c) (g_open_count c) sc_open_count (fun _ _ _ _ _ _ us hl => match us, hl with | [_, _, _], _ => rfl) (fun vs H Q E h => by obtain ⟨p, t, q, l, g, o, ac, h, qs, a, ms, j, m, rfl, hp, hw, hL, ha, hm, hj, hQ⟩ := h; rfl) fun cdv A outer s H vs Q E hr h => ⟨_, (pss_one (ps_ret (pe_op op_sub (pmeth0 (E := E0) (ok_Table_card_count c) (pe_fldK (K := K) rfl (pv 0)) (hr.mono (by decide)) passL) (pe_callB (lenK (K := K) rfl) (by rfl) (b_len c) boot_len (pa_cons (pcall (E := E0) (ok_known_entries c) (hr.mono (by decide)) passL (pa_cons (pv 0) (pa_cons (pv 1) (pa_cons (pv 2) pa_nil)))) pa_nil))))), ?_⟩
  obtain ⟨p, t, q, l, g, o, ac, h, qs, a, ms, j, m, rfl, hp, hw, hL, ha, hm, hj, hQ⟩ := h
  obtain ⟨dx, dxt, h1, h2⟩ := players_at hp
  refine ⟨_, rfl, p, _, _, _, _, rfl, h1, cl_Play c, na_Play_table c, rfl, t, _, _, rfl, h2, rfl, t, q, _, rfl, hp.tb, ?_⟩
  refine ⟨_, rfl, _, rfl, _, rfl, p, t, q, l, g, o, ac, h, qs, a, ms, j, m, rfl, hp, hw, hL, ha, hm, hj, fun kn H2 ks s2 hkn hks hkp => ?_⟩
  refine ⟨kn, _, rfl, .inl (SqL.of hks), _, _, rfl, rfl, ?_⟩
  rw [hkp.length]
  exact hQ H2 s2
abbrev N_probability_of : List Str := ["play", "members", "player", "position", "card", "possible"]
theorem sc_probability_of : FnScope N_probability_of ["play", "members", "player", "position", "card"] (defScope s_probability_of) := ⟨rfl, rfl, rfl, by decide +kernel, rfl, by decide +kernel, by decide +kernel⟩
theorem ok_probability_of (c : Ctx K mg) : OkF P w K mg base (L2.CX P w) 9 "probability_of" ["play", "members", "player", "position", "card"] ((fun vs H Q _ => ∃ p t q l g o ac h qs a ms j b cd m, vs = [.ref p, .ref a, nv j, nv b, nv cd] ∧ PlayAt H p t q l g o ac h ∧ Wh m h ∧ Laid (Vbndaa.cardCount h.room.table) h.room.permutations qs ∧ LN H a ms ∧ ms.length ≤ 6 ∧ j < h.room.table.players.length ∧ b < Vbndaa.cardCount h.room.table ∧ ∀ T H', Same H H' → H' T = some (.tup (if (posP h.room qs ms j b).contains cd = true then [nv 1, nv (posP h.room qs ms j b).length] else [nv 0, nv 1])) → Q (.ref T) H')) := by
  refine okF (f_probability_of c) (g_probability_of c) sc_probability_of (fun _ _ _ _ _ _ us hl => match us, hl with | [_, _, _, _, _], _ => rfl) (fun vs H Q E h => by obtain ⟨p, t, q, l, g, o, ac, h, qs, a, ms, j, b, cd, m, rfl, hp, hw, hL, ha, hm, hj, hb, hQ⟩ := h; rfl) fun cdv A outer s H vs Q E hr h => ⟨_, (pss_cons (ps_set (i := 5) sc_probability_of.nd rfl (Or.inl rfl) (pcall (E := E0) (ok_possible_cards c) (hr.mono (by decide)) passL (pa_cons (pv 0) (pa_cons (pv 1) (pa_cons (pv 2) (pa_cons (pv 3) pa_nil))))))
      (pss_cons (ps_if (pt_cmpR (notIn_seqK (K := K) rfl) (pv 4) (pv 5) (by rfl)) (pss_one (ps_ret (pe_tup (pa_cons pe_int (pa_cons pe_int pa_nil))))) pss_nil)
      (pss_one (ps_ret (pe_tup (pa_cons pe_int (pa_cons (pe_callB (lenK (K := K) rfl) (by rfl) (b_len c) boot_len (pa_cons (pv 5) pa_nil)) pa_nil))))))), ?_⟩
  obtain ⟨p, t, q, l, g, o, ac, h, qs, a, ms, j, b, cd, m, rfl, hp, hw, hL, ha, hm, hj, hb, hQ⟩ := h
  refine ⟨_, rfl, _, rfl, _, rfl, _, rfl, p, t, q, l, g, o, ac, h, qs, a, ms, j, b, m, rfl, hp, hw, hL, ha, hm, hj, hb, fun D H1 s1 hD hd => ?_⟩
  refine ⟨_, rfl, _, rfl, D, _, rfl, .inl (SqL.of hd), rfl, flat_nat _, _, rfl, ?_⟩
  show (if (!inV (nv cd) ((posP h.room qs ms j b).map nv)) = true then _ else _)
  rw [inV_nat]
  cases hc : (posP h.room qs ms j b).contains cd with
  | true =>
    rw [hc, if_pos rfl] at hQ
    refine iteF ⟨_, rfl, D, _, rfl, .inl (SqL.of hd), by show 2 ≤ sizeLine; decide, fun T hT => ?_⟩
    refine hQ T _ (s1.trans (Same.new hT)) ?_
    rw [upd_same, List.length_map]
    rfl
  | false =>
    rw [hc, if_neg (by decide)] at hQ
    exact iteT ⟨by show 2 ≤ sizeLine; decide, fun T hT => hQ T _ (s1.trans (Same.new hT)) upd_same⟩
end

end VD
namespace VD
open PySem PySem.Spec PyProof.Rows L2
theorem li_ln {H : Hp} {a : Addr} {ns : List Nat} : LI H a (Vbndaa.toInts ns) = LN H a ns := by
  show (H a = _) = (H a = _)
  rw [nv_map]
  rfl
def DQ (Q : VK) (E : XK) (H : Hp) (p t q l g o ac : Addr) (h : Vbndaa.Session) (c : List (List Int)) : Prop :=
  (∀ k : Nat, Vbndaa.stepLists (some h) c = Vbndaa.fail (some h) k → ∀ H', Same H H' → Rf E H' (-(k : Int))) ∧
  ∀ h' fs, Vbndaa.stepLists (some h) c = (some h', 0 :: fs) → ∀ f H', But [l, g, o, ac] H H' → H f = none → LI H' f fs → PlayAt H' p t q l g o ac h' → Q (.ref f) H'
structure PP (H : Hp) (p t q l g o ac : Addr) (h : Vbndaa.Session) (m : Nat) : Prop where
  pl : PlayAt H p t q l g o ac h
  wh : Wh m h
  le : m ≤ 50000
/-- the play stands still -/
theorem DQ.still {Q : VK} {E : XK} {H : Hp} {p t q l g o ac : Addr} {h : Vbndaa.Session} {c : List (List Int)} {m : Nat} (d : DQ Q E H p t q l g o ac h c) (pp : PP H p t q l g o ac h m) {fs : List Int} (e : Vbndaa.stepLists (some h) c = (some h, 0 :: fs)) :
    ∀ f H', Same H H' → H f = none → LI H' f fs → Q (.ref f) H' := fun f H' s hf hl => d.2 h fs e f H' (s.but _) hf hl (pp.pl.same s)
section
variable {P : Program} {w : World} {K : PySem.W.Frag} {mg : Str → Option Value} {base : Heap}
abbrev N_counted : List Str := ["row"]
theorem sc_counted : FnScope N_counted ["row"] (defScope s_counted) := ⟨rfl, rfl, rfl, by decide +kernel, rfl, by decide +kernel, by decide +kernel⟩
theorem ok_counted (c : Ctx K mg) : OkF P w K mg base (L2.CX P w) 1 "counted" ["row"] ((fun vs H Q _ => ∃ a ns, vs = [.ref a] ∧ LN H a ns ∧ ns.length ≤ 10000000 ∧ ∀ f H', Same H H' → H f = none → LI H' f (Vbndaa.withLength ns) → Q (.ref f) H')) := by
  refine okF (f_counted c) (g_counted c) sc_counted (fun _ _ _ _ _ _ us hl => match us, hl with | [_], _ => rfl) (fun vs H Q E h => by obtain ⟨a, ns, rfl, ha, hz, hQ⟩ := h; rfl) fun cdv A outer s H vs Q E hr h => ⟨_, (pss_one (ps_ret (pe_op op_cat (pe_lst (pa_cons (pe_callB (lenK (K := K) rfl) (by rfl) (b_len c) boot_len (pa_cons (pv 0) pa_nil)) pa_nil)) (pv 0)))), ?_⟩
  obtain ⟨a, ns, rfl, ha, hz, hQ⟩ := h
  refine ⟨_, rfl, a, _, rfl, .inl (SqL.of ha), by show 1 ≤ sizeLine; decide, fun f hf => ?_⟩
  have s1 := Same.new (o := .lst [.int ((ns.map nv).length : Nat)]) hf
  refine ⟨_, rfl, f, a, _, _, rfl, rfl, upd_same, s1 _ _ ha, by rw [sizeLine_eq, List.length_map]; show 1 + _ ≤ _; omega, fun f2 hf2 => hQ f2 _ (s1.trans (Same.new hf2)) (s1.old hf2) ?_⟩
  show upd _ f2 _ f2 = _
  rw [upd_same, List.length_map, nv_map]
  rfl
abbrev N_need_card : List Str := ["play", "card"]
theorem sc_need_card : FnScope N_need_card ["play", "card"] (defScope s_need_card) := ⟨rfl, rfl, rfl, by decide +kernel, rfl, by decide +kernel, by decide +kernel⟩
theorem ok_need_card (c : Ctx K mg) : OkF P w K mg base (L2.CX P w) 5 "need_card" ["play", "card"] ((fun vs H Q E => ∃ p t q l g o ac h m n, vs = [.ref p, nv n] ∧ PP H p t q l g o ac h m ∧ (n < Vbndaa.cardCount h.room.table → Q .non H) ∧ (¬ n < Vbndaa.cardCount h.room.table → Rf E H (-4)))) := by
  refine okF (f_need_card c) (g_need_card c) sc_need_card (fun _ _ _ _ _ _ us hl => match us, hl with | [_, _], _ => rfl) (fun vs H Q E h => by obtain ⟨p, t, q, l, g, o, ac, h, m, n, rfl, hp, k1, k2⟩ := h; rfl) fun cdv A outer s H vs Q E hr h => ⟨_, (pss_one (ps_expr (pcall (ok_need c) (hr.mono (by decide)) (passes_call (takes_of rfl rfl rfl rfl) (fun _ _ _ _ h => h)) (pa_cons (pe_cmpR op_lt (pv 1) (pmeth0 (E := E0) (ok_Table_card_count c) (pe_fldK (K := K) rfl (pv 0)) (hr.mono (by decide)) passL) (nomark _)) (pa_cons (pgi (i_NOT_THERE c)) pa_nil))))), ?_⟩
  obtain ⟨p, t, q, l, g, o, ac, h, m, n, rfl, hp, k1, k2⟩ := h
  obtain ⟨dx, dxt, h1, h2⟩ := players_at hp.pl
  refine ⟨_, rfl, _, rfl, p, _, _, _, _, rfl, h1, cl_Play c, na_Play_table c, rfl, t, _, _, rfl, h2, rfl, t, q, _, rfl, hp.pl.tb, _, _, rfl, rfl, _, _, rfl, fun e => ?_, fun e => ?_⟩
  · exact k1 (by have := of_decide_eq_true e; unfold Vbndaa.cardCount; omega)
  · exact k2 (by have := of_decide_eq_false e; unfold Vbndaa.cardCount; omega)
abbrev N_need_player : List Str := ["play", "player"]
theorem sc_need_player : FnScope N_need_player ["play", "player"] (defScope s_need_player) := ⟨rfl, rfl, rfl, by decide +kernel, rfl, by decide +kernel, by decide +kernel⟩
theorem ok_need_player (c : Ctx K mg) : OkF P w K mg base (L2.CX P w) 4 "need_player" ["play", "player"] ((fun vs H Q E => ∃ p t q l g o ac h m n, vs = [.ref p, nv n] ∧ PP H p t q l g o ac h m ∧ (n < h.room.table.players.length → Q .non H) ∧ (¬ n < h.room.table.players.length → Rf E H (-4)))) := by
  refine okF (f_need_player c) (g_need_player c) sc_need_player (fun _ _ _ _ _ _ us hl => match us, hl with | [_, _], _ => rfl) (fun vs H Q E h => by obtain ⟨p, t, q, l, g, o, ac, h, m, n, rfl, hp, k1, k2⟩ := h; rfl) fun cdv A outer s H vs Q E hr h => ⟨_, (pss_one (ps_expr (pcall (ok_need c) (hr.mono (by decide)) (passes_call (takes_of rfl rfl rfl rfl) (fun _ _ _ _ h => h)) (pa_cons (pe_cmpR op_lt (pv 1) (pmeth0 (E := E0) (ok_Table_player_count c) (pe_fldK (K := K) rfl (pv 0)) (hr.mono (by decide)) passL) (nomark _)) (pa_cons (pgi (i_NOT_THERE c)) pa_nil))))), ?_⟩
  obtain ⟨p, t, q, l, g, o, ac, h, m, n, rfl, hp, k1, k2⟩ := h
  obtain ⟨dx, dxt, h1, h2⟩ := players_at hp.pl
  refine ⟨_, rfl, _, rfl, p, _, _, _, _, rfl, h1, cl_Play c, na_Play_table c, rfl, t, _, _, rfl, h2, rfl, t, q, _, rfl, hp.pl.tb, _, _, rfl, rfl, _, _, rfl, fun e => ?_, fun e => ?_⟩
  · exact k1 (by have := of_decide_eq_true e; omega)
  · exact k2 (by have := of_decide_eq_false e; omega)
abbrev N_need_all : List Str := ["play"]
theorem sc_need_all : FnScope N_need_all ["play"] (defScope s_need_all) := ⟨rfl, rfl, rfl, by decide +kernel, rfl, by decide +kernel, by decide +kernel⟩
theorem ok_need_all (c : Ctx K mg) : OkF P w K mg base (L2.CX P w) 4 "need_all" ["play"] ((fun vs H Q E => ∃ p t q l g o ac h m, vs = [.ref p] ∧ PP H p t q l g o ac h m ∧ ∀ H', Same H H' → (Vbndaa.allSubmitted h.room = true → Q .non H') ∧ (Vbndaa.allSubmitted h.room = false → Rf E H' (-7)))) := by
  refine okF (f_need_all c) (g_need_all c) sc_need_all (fun _ _ _ _ _ _ us hl => match us, hl with | [_], _ => rfl) (fun vs H Q E h => by obtain ⟨p, t, q, l, g, o, ac, h, m, rfl, hp, k⟩ := h; rfl) fun cdv A outer s H vs Q E hr h => ⟨_, (pss_one (ps_expr (pcall (ok_need c) (hr.mono (by decide)) (passes_call (takes_of rfl rfl rfl rfl) (fun _ _ _ _ h => h)) (pa_cons (pmeth0 (E := E0) (ok_Play_all_laid c) (pv 0) (hr.mono (by decide)) passL) (pa_cons (pgi (i_NOT_ALL c)) pa_nil))))), ?_⟩
  obtain ⟨p, t, q, l, g, o, ac, h, m, rfl, hp, k⟩ := h
  obtain ⟨dx, dxt, h1, h2⟩ := players_at hp.pl
  have hpl : h.room.permutations.length ≤ 1000 := by
    rw [hp.wh.perms]
    obtain ⟨_, _, _, w4, _⟩ := hp.wh.tab.1
    omega
  refine ⟨_, rfl, p, _, _, rfl, h1, rfl, p, t, q, l, g, o, ac, h, rfl, hp.pl, hpl, fun H1 s1 => ⟨_, _, rfl, (k H1 s1).1, (k H1 s1).2⟩⟩
theorem PP.same {H H' : Hp} {p t q l g o ac : Addr} {h : Vbndaa.Session} {m : Nat} (s : Same H H') (x : PP H p t q l g o ac h m) : PP H' p t q l g o ac h m := ⟨x.pl.same s, x.wh, x.le⟩
/-- every member exists, or one does not -/
theorem coal {s n : Nat} (hs : s < 64) (hn : n ≤ 6) : (s < 2 ^ n ↔ ∀ i ∈ mem6 s, i < n) := by
  have key : ∀ n, n < 7 → ∀ s, s < 64 → (decide (s < 2 ^ n) = (mem6 s).all fun i => decide (i < n)) := by decide +kernel
  have this := key n (by omega) s hs
  constructor
  · intro e
    rw [decide_eq_true e] at this
    intro i hi
    exact of_decide_eq_true (List.all_eq_true.mp this.symm i hi)
  · intro e
    refine of_decide_eq_true ?_
    rw [this, List.all_eq_true]
    intro i hi
    exact decide_eq_true (e i hi)
abbrev N_need_coalition : List Str := ["play", "coalition", "members", "member"]
theorem sc_need_coalition : FnScope N_need_coalition ["play", "coalition"] (defScope s_need_coalition) := ⟨rfl, rfl, rfl, by decide +kernel, rfl, by decide +kernel, by decide +kernel⟩
theorem ok_need_coalition (c : Ctx K mg) : OkF P w K mg base (L2.CX P w) 5 "need_coalition" ["play", "coalition"] ((fun vs H Q E => ∃ p t q l g o ac h m s, vs = [.ref p, nv s] ∧ PP H p t q l g o ac h m ∧ s < 64 ∧ (s < 2 ^ h.room.table.players.length → ∀ a H', Same H H' → H a = none → LN H' a (mem6 s) → Q (.ref a) H') ∧ (¬ s < 2 ^ h.room.table.players.length → ∀ H', Same H H' → Rf E H' (-4)))) := by
  refine okF (f_need_coalition c) (g_need_coalition c) sc_need_coalition (fun _ _ _ _ _ _ us hl => match us, hl with | [_, _], _ => rfl) (fun vs H Q E h => by obtain ⟨p, t, q, l, g, o, ac, h, m, s0, rfl, hp, hs, k1, k2⟩ := h; rfl) fun cdv A outer s H vs Q E hr h => ⟨_, (pss_cons (ps_set (i := 2) sc_need_coalition.nd rfl (Or.inl rfl) (pcall (E := E0) (ok_members_of c) (hr.mono (by decide)) passL (pa_cons (pv 1) pa_nil)))
      (pss_cons (ps_for PassesOwn.leaving rfl (pi_list (pv 2)) (pg_name (i := 3) sc_need_coalition.nd rfl (Or.inl rfl)) (pss_one (ps_expr (pcall (ok_need_player c) (hr.mono (by decide)) (passes_call (takes_of rfl rfl rfl rfl) (fun _ _ _ _ h => h)) (pa_cons (pv 0) (pa_cons (pv 3) pa_nil))))))
      (pss_one (ps_ret (pv 2))))), ?_⟩
  obtain ⟨p, t, q, l, g, o, ac, h, m, s0, rfl, hp, hs, k1, k2⟩ := h
  obtain ⟨_, _, _, w4, _⟩ := hp.wh.tab.1
  rw [coal hs w4] at k1 k2
  refine ⟨_, rfl, s0, rfl, fun a H1 s1 ha hl => ?_⟩
  refine ⟨_, rfl, a, rfl, ⟨_, SqL.of hl⟩, for_list (K := K) (a := a) (xs := (mem6 s0).map nv) (fun i σ H' => ∃ x, σ = [some (.ref p), some (nv s0), some (.ref a), x] ∧ H' = H1 ∧ ∀ j ∈ (mem6 s0).take i, j < h.room.table.players.length) ⟨none, rfl, rfl, by simp⟩ (fun i σ H' _ ⟨_, _, e, _⟩ => SqL.of (by rw [e]; exact hl)) ?_ ?_⟩
  · rintro i v σ H' hv ⟨x0, rfl, rfl, hi⟩
    obtain ⟨n, hn, rfl⟩ := map_at hv
    refine ⟨_, rfl, _, rfl, p, t, q, l, g, o, ac, h, m, n, rfl, hp.same s1, fun e => ?_, fun e => ?_⟩
    · refine ⟨_, rfl, rfl, fun j hj => ?_⟩
      rw [take_succ hn] at hj
      rcases List.mem_append.mp hj with z | z
      · exact hi j z
      · obtain rfl : j = n := by simpa using z
        exact e
    · exact k2 (fun z => e (z n (List.mem_of_getElem? hn))) _ s1
  · rintro σ H' ⟨x0, rfl, rfl, hi⟩
    rw [List.length_map, List.take_of_length_le (Nat.le_refl _)] at hi
    exact ⟨_, rfl, k1 hi a _ s1 ha hl⟩
abbrev N_print_table : List Str := ["play", "numbers", "rows"]
theorem sc_print_table : FnScope N_print_table ["play", "numbers", "rows"] (defScope s_print_table) := ⟨rfl, rfl, rfl, by decide +kernel, rfl, by decide +kernel, by decide +kernel⟩
theorem ok_print_table (c : Ctx K mg) : OkF P w K mg base (L2.CX P w) 4 "print_table" ["play", "numbers", "rows"] ((fun vs H Q E => ∃ p t q l g o ac h m bn br, vs = [.ref p, .ref bn, .ref br] ∧ PP H p t q l g o ac h m ∧ DQ Q E H p t q l g o ac h [[2]])) := by
  refine okF (f_print_table c) (g_print_table c) sc_print_table (fun _ _ _ _ _ _ us hl => match us, hl with | [_, _, _], _ => rfl) (fun vs H Q E h => by obtain ⟨p, t, q, l, g, o, ac, h, m, bn, br, rfl, hp, hQ⟩ := h; rfl) fun cdv A outer s H vs Q E hr h => ⟨_, (pss_one (ps_ret (pcall (E := E0) (ok_counted c) (hr.mono (by decide)) passL (pa_cons (pcall (E := E0) (ok_text_of c) (hr.mono (by decide)) passL (pa_cons (pe_fldK (K := K) rfl (pv 0)) pa_nil)) pa_nil)))), ?_⟩
  obtain ⟨p, t, q, l, g, o, ac, h, m, bn, br, rfl, hp, hQ⟩ := h
  obtain ⟨dx, dxt, h1, h2⟩ := players_at hp.pl
  have hz : (Vbndaa.printTable h.room.table).length ≤ 10000000 := by
    rw [print_eq]
    have hw := hp.wh.tab.1
    obtain ⟨_, _, _, _, _, hc, _⟩ := id hw
    have l0 := nameL_len hw (k := 0) (by decide)
    have l1 := nameL_len hw (k := 1) (by decide)
    have l2 := nameL_len hw (k := 2) (by decide)
    have l3 := nameL_len hw (k := 3) (by decide)
    have dl := dec_len (n := h.room.table.deck.copies) (by omega)
    have cl : (copiesL h.room.table.deck.copies).length ≤ 100 := by
      unfold copiesL
      show (Vbndaa.toBytes "copies" ++ 32 :: Vbndaa.decimalBytes h.room.table.deck.copies ++ [10]).length ≤ 100
      have : (Vbndaa.toBytes "copies").length = 6 := by decide +kernel
      simp only [List.length_append, List.length_cons, List.length_nil]
      omega
    simp only [List.length_append]
    omega
  refine ⟨_, rfl, p, _, _, _, _, rfl, h1, cl_Play c, na_Play_table c, rfl, t, q, _, rfl, hp.pl.tb, fun a H1 s1 ha hl => ⟨a, _, rfl, hl, hz, fun f H2 s2 hf hl2 => ?_⟩⟩
  exact hQ.still hp rfl f H2 (s1.trans s2) (s1.old hf) hl2
end

end VD
namespace VD
open PySem PySem.Spec PyProof.Rows L2
theorem li_cat {H1 : Hp} {p b : Addr} {xs ys : List Int} {Q : VK} (h1 : LI H1 p xs) (h2 : LI H1 b ys) (hz : xs.length + ys.length ≤ 16000000) (k : ∀ q H2, Same H1 H2 → H1 q = none → LI H2 q (xs ++ ys) → Q (.ref q) H2) : rCat (.ref p) (.ref b) H1 Q :=
  ⟨p, b, _, _, rfl, rfl, h1, h2, by rw [sizeLine_eq, List.length_map, List.length_map]; omega, fun q hq => k q _ (Same.new hq) hq (by rw [← List.map_append]; exact upd_same)⟩
theorem nats_ints (l : List Nat) : Vbndaa.toNats (Vbndaa.toInts l) = l := by
  unfold Vbndaa.toNats Vbndaa.toInts
  rw [List.map_map]
  exact (List.map_congr_left fun x _ => Int.toNat_natCast x).trans (List.map_id _)
theorem bytes_ok {l : List Nat} {m : Nat} (h1 : l.length ≤ m) (h2 : ∀ x ∈ l, x ≤ 255) : Vbndaa.isByteList (Vbndaa.toInts l) m = true := by
  unfold Vbndaa.isByteList Vbndaa.toInts
  rw [Bool.and_eq_true, decide_eq_true_iff, List.length_map, List.all_eq_true]
  refine ⟨h1, fun x hx => ?_⟩
  obtain ⟨n, hn, rfl⟩ := List.mem_map.mp hx
  unfold Vbndaa.inRange
  rw [Bool.and_eq_true, decide_eq_true_iff, decide_eq_true_iff]
  have := h2 n hn
  omega
theorem in_range {n a b : Nat} (h1 : a ≤ n) (h2 : n ≤ b) : Vbndaa.inRange (n : Int) (a : Int) (b : Int) = true := by
  unfold Vbndaa.inRange
  rw [Bool.and_eq_true, decide_eq_true_iff, decide_eq_true_iff]
  omega
theorem pos_arg {n : Nat} (h : n ≤ 51) : Vbndaa.isPositionArgument (n : Int) = true := in_range (a := 0) (b := 51) (Nat.zero_le _) h
theorem pos_ex (h : Vbndaa.Session) (n : Nat) : Vbndaa.positionExists h (n : Int) = decide (n < Vbndaa.cardCount h.room.table) := by
  unfold Vbndaa.positionExists
  rw [Bool.eq_iff_iff, decide_eq_true_iff, decide_eq_true_iff]
  omega
theorem ply_ex (h : Vbndaa.Session) (n : Nat) : Vbndaa.playerExists h (n : Int) = decide (n < h.room.table.players.length) := by
  unfold Vbndaa.playerExists
  rw [Bool.eq_iff_iff, decide_eq_true_iff, decide_eq_true_iff]
  omega
theorem coa_ex (h : Vbndaa.Session) (n : Nat) : Vbndaa.coalitionExists h (n : Int) = decide (n < 2 ^ h.room.table.players.length) := by
  unfold Vbndaa.coalitionExists
  rw [Bool.eq_iff_iff, decide_eq_true_iff, decide_eq_true_iff]
  omega
section
variable {P : Program} {w : World} {K : PySem.W.Frag} {mg : Str → Option Value} {base : Heap}
abbrev N_card_info : List Str := ["play", "numbers", "rows", "card", "text"]
theorem sc_card_info : FnScope N_card_info ["play", "numbers", "rows"] (defScope s_card_info) := ⟨rfl, rfl, rfl, by decide +kernel, rfl, by decide +kernel, by decide +kernel⟩
theorem ok_card_info (c : Ctx K mg) : OkF P w K mg base (L2.CX P w) 7 "card_info" ["play", "numbers", "rows"] ((fun vs H Q E => ∃ p t q l g o ac h m bn br n, vs = [.ref p, .ref bn, .ref br] ∧ PP H p t q l g o ac h m ∧ LI H bn [((n : Nat) : Int)] ∧ n ≤ 51 ∧ DQ Q E H p t q l g o ac h [[3, (n : Int)]])) := by
  refine okF (f_card_info c) (g_card_info c) sc_card_info (fun _ _ _ _ _ _ us hl => match us, hl with | [_, _, _], _ => rfl) (fun vs H Q E h => by obtain ⟨p, t, q, l, g, o, ac, h, m, bn, br, n, rfl, hp, hb, hn, hQ⟩ := h; rfl) fun cdv A outer s H vs Q E hr h => ⟨_, (pss_cons (ps_set (i := 3) sc_card_info.nd rfl (Or.inl rfl) (pe_ix (ix_listK (K := K) rfl) (pv 1) pe_int (fun _ _ => rfl)))
      (pss_cons (ps_expr (pcall (ok_need_card c) (hr.mono (by decide)) (passes_call (takes_of rfl rfl rfl rfl) (fun _ _ _ _ h => h)) (pa_cons (pv 0) (pa_cons (pv 3) pa_nil))))
      (pss_cons (ps_set (i := 4) sc_card_info.nd rfl (Or.inl rfl) (pcall (E := E0) (ok_counted c) (hr.mono (by decide)) passL (pa_cons (pcall (E := E0) (ok_card_text c) (hr.mono (by decide)) passL (pa_cons (pe_fldK (K := K) rfl (pv 0)) (pa_cons (pv 3) pa_nil))) pa_nil)))
      (pss_cons (ps_if (pt_val (pcall (E := E0) (ok_is_extra c) (hr.mono (by decide)) passL (pa_cons (pe_fldK (K := K) rfl (pv 0)) (pa_cons (pv 3) pa_nil)))) (pss_one (ps_ret (pe_op op_cat (pe_lst (pa_cons pe_int (pa_cons (pe_op op_sub (pv 3) (pmeth0 (E := E0) (ok_Table_first_extra c) (pe_fldK (K := K) rfl (pv 0)) (hr.mono (by decide)) passL)) pa_nil))) (pv 4)))) pss_nil)
      (pss_one (ps_ret (pe_op op_cat (pe_op op_cat (pe_lst (pa_cons pe_int pa_nil)) (pe_callTy (listK (K := K) rfl) (by rfl) (b_list c) boot_list (pa_cons (pcall (E := E0) (ok_parts_of c) (hr.mono (by decide)) passL (pa_cons (pe_fldK (K := K) rfl (pv 0)) (pa_cons (pv 3) pa_nil))) pa_nil))) (pv 4)))))))), ?_⟩
  obtain ⟨p, t, q, l, g, o, ac, h, m, bn, br, n, rfl, hp, hb, hn, hQ⟩ := h
  obtain ⟨dx, dxt, h1, h2⟩ := players_at hp.pl
  have st : Vbndaa.stepLists (some h) [[3, (n : Int)]] = if Vbndaa.isPositionArgument (n : Int) = false then Vbndaa.fail (some h) 1 else if Vbndaa.positionExists h (n : Int) = false then Vbndaa.fail (some h) 4 else Vbndaa.succeed (some h) ((match Vbndaa.cardAt h.room.table.deck n with
        | .suited k u r => Vbndaa.toInts [1, k, u, r]
        | .extra i => Vbndaa.toInts [0, i]) ++ Vbndaa.withLength (Vbndaa.printCard h.room.table.deck n)) := rfl
  rw [pos_arg hn, pos_ex, if_neg (by decide)] at st
  refine ⟨_, rfl, bn, _, (0 : Nat), _, rfl, rfl, SqL.of hb, atI_nat rfl, _, rfl, _, rfl, p, t, q, l, g, o, ac, h, m, n, rfl, hp, fun c1 => ?_, fun c1 => ?_⟩
  · rw [decide_eq_true c1, if_neg (by decide)] at st
    have hw := hp.wh.tab.1
    have hcz := (cardW_ok hw c1).2
    rw [cardW_print] at hcz
    refine ⟨_, rfl, p, _, _, _, _, rfl, h1, cl_Play c, na_Play_table c, rfl, _, rfl, t, q, _, n, rfl, hp.pl.tb, c1, fun a H1 s1 ha hl => ⟨a, _, rfl, hl, by omega, fun f H2 s2 hf hf2 => ?_⟩⟩
    have s12 := s1.trans s2
    have hp2 := hp.same s12
    refine ⟨_, rfl, p, _, _, _, _, rfl, s12 _ _ h1, cl_Play c, na_Play_table c, rfl, _, rfl, t, q, _, n, rfl, hp2.pl.tb, _, rfl, ?_⟩
    have wl : (Vbndaa.withLength (Vbndaa.printCard h.room.table.deck n)).length ≤ 101 := by
      show ((Vbndaa.printCard h.room.table.deck n).map _).length + 1 ≤ 101
      rw [List.length_map]
      omega
    by_cases ce : h.room.table.deck.copies * Vbndaa.cardsPerCopy h.room.table.deck ≤ n
    · have ea : Vbndaa.cardAt h.room.table.deck n = .extra (n - h.room.table.deck.copies * Vbndaa.cardsPerCopy h.room.table.deck) := by
        unfold Vbndaa.cardAt
        rw [if_neg (by omega)]
      rw [ea] at st
      refine ite2 (fun _ => ?_) (fun e => absurd (decide_eq_true ce) e)
      refine ⟨_, rfl, _, rfl, p, _, _, _, _, rfl, s12 _ _ h1, cl_Play c, na_Play_table c, rfl, t, _, _, rfl, s12 _ _ h2, rfl, t, q, _, rfl, hp2.pl.tb, _, _, rfl, rfl, by show 2 ≤ sizeLine; decide, fun q1 hq1 => ?_⟩
      have s3 := Same.new (o := .lst [.int 0, .int ((n : Int) - ((h.room.table.deck.copies * Vbndaa.cardsPerCopy h.room.table.deck : Nat) : Int))]) hq1
      refine ⟨_, rfl, li_cat (xs := [0, (n : Int) - ((h.room.table.deck.copies * Vbndaa.cardsPerCopy h.room.table.deck : Nat) : Int)]) upd_same (s3 _ _ hf2) (by show 2 + _ ≤ _; omega) fun q2 H3 s4 hq2 hl2 => hQ.still hp st q2 H3 ((s12.trans s3).trans s4) ((s12.trans s3).old hq2) ?_⟩
      have e2 : [0, (n : Int) - ((h.room.table.deck.copies * Vbndaa.cardsPerCopy h.room.table.deck : Nat) : Int)] = Vbndaa.toInts [0, n - h.room.table.deck.copies * Vbndaa.cardsPerCopy h.room.table.deck] := by
        have : ((n : Int) - ((h.room.table.deck.copies * Vbndaa.cardsPerCopy h.room.table.deck : Nat) : Int)) = ((n - h.room.table.deck.copies * Vbndaa.cardsPerCopy h.room.table.deck : Nat) : Int) := by omega
        rw [this]
        rfl
      rw [e2] at hl2
      exact hl2
    · have ea : Vbndaa.cardAt h.room.table.deck n = .suited (n / Vbndaa.cardsPerCopy h.room.table.deck) (n % Vbndaa.cardsPerCopy h.room.table.deck / h.room.table.deck.ranks.length) (n % Vbndaa.cardsPerCopy h.room.table.deck % h.room.table.deck.ranks.length) := by
        unfold Vbndaa.cardAt
        rw [if_pos (by omega)]
      rw [ea] at st
      refine ite2 (fun e => absurd (of_decide_eq_true e) ce) (fun _ => ?_)
      refine ⟨by show 1 ≤ sizeLine; decide, fun q1 hq1 => ?_⟩
      have s3 := Same.new (o := .lst [.int 1]) hq1
      have s13 := s12.trans s3
      refine ⟨_, rfl, p, _, _, _, _, rfl, s13 _ _ h1, cl_Play c, na_Play_table c, rfl, _, rfl, t, q, _, n, rfl, (hp.same s13).pl.tb, by omega, fun T H3 s4 hT hT2 => ?_⟩
      refine ⟨T, _, rfl, .inr (SqT.of hT2), fun q2 hq2 => ?_⟩
      have s5 := s4.trans (Same.new (o := .lst ((partsL h.room.table n).map nv)) hq2)
      refine li_cat (xs := [1]) (ys := (partsL h.room.table n).map fun (n : Nat) => (n : Int)) (s5 _ _ upd_same) (by show upd _ q2 _ q2 = _; rw [upd_same, nv_map]) (by rw [List.length_map]; show 1 + 3 ≤ 16000000; decide) fun q3 H4 s6 hq3 hl3 => ?_
      have s7 := s5.trans s6
      refine ⟨_, rfl, li_cat hl3 (s7 _ _ (s3 _ _ hf2)) (by rw [List.length_append, List.length_map]; show 1 + 3 + _ ≤ _; omega) fun q4 H5 s8 hq4 hl4 => hQ.still hp st q4 H5 ((s13.trans s7).trans s8) ((s13.trans s7).old hq4) ?_⟩
      exact hl4
  · rw [decide_eq_false c1, if_pos rfl] at st
    exact hQ.1 4 st H (Same.refl _)
abbrev N_find_card : List Str := ["play", "numbers", "rows"]
theorem sc_find_card : FnScope N_find_card ["play", "numbers", "rows"] (defScope s_find_card) := ⟨rfl, rfl, rfl, by decide +kernel, rfl, by decide +kernel, by decide +kernel⟩
theorem ok_find_card (c : Ctx K mg) : OkF P w K mg base (L2.CX P w) 6 "find_card" ["play", "numbers", "rows"] ((fun vs H Q E => ∃ p t q l g o ac h m bn br rb tx, vs = [.ref p, .ref bn, .ref br] ∧ PP H p t q l g o ac h m ∧ H br = some (.lst [.ref rb]) ∧ LN H rb tx ∧ tx.length ≤ 60 ∧ (∀ x ∈ tx, x ≤ 255) ∧ DQ Q E H p t q l g o ac h [[4], Vbndaa.toInts tx])) := by
  refine okF (f_find_card c) (g_find_card c) sc_find_card (fun _ _ _ _ _ _ us hl => match us, hl with | [_, _, _], _ => rfl) (fun vs H Q E h => by obtain ⟨p, t, q, l, g, o, ac, h, m, bn, br, rb, tx, rfl, hp, hbr, hrb, hl, hb, hQ⟩ := h; rfl) fun cdv A outer s H vs Q E hr h => ⟨_, (pss_one (ps_ret (pe_lst (pa_cons (pcall (ok_card_of c) (hr.mono (by decide)) (passes_call (takes_of rfl rfl rfl rfl) (fun _ _ _ _ h => h)) (pa_cons (pe_fldK (K := K) rfl (pv 0)) (pa_cons (pe_ix (ix_listK (K := K) rfl) (pv 2) pe_int (fun _ _ => rfl)) pa_nil))) pa_nil)))), ?_⟩
  obtain ⟨p, t, q, l, g, o, ac, h, m, bn, br, rb, tx, rfl, hp, hbr, hrb, hl, hb, hQ⟩ := h
  obtain ⟨dx, dxt, h1, h2⟩ := players_at hp.pl
  have st : Vbndaa.stepLists (some h) [[4], Vbndaa.toInts tx] = if Vbndaa.isByteList (Vbndaa.toInts tx) 60 = false then Vbndaa.fail (some h) 1 else match Vbndaa.parseCard h.room.table.deck (Vbndaa.toNats (Vbndaa.toInts tx)) with
    | .error _ => Vbndaa.fail (some h) 3
    | .ok c => Vbndaa.succeed (some h) [(c : Int)] := rfl
  rw [bytes_ok hl hb, if_neg (by decide), nats_ints] at st
  have hpe := parse_card_eq hp.wh.tab.1 tx
  refine ⟨_, rfl, p, _, _, _, _, rfl, h1, cl_Play c, na_Play_table c, rfl, _, rfl, br, _, (0 : Nat), _, rfl, rfl, SqL.of hbr, atI_nat rfl, t, q, _, rb, tx, rfl, hp.pl.tb, hrb, by omega, ?_⟩
  cases hc : cardOf h.room.table ((toks 0 tx).map (·.2)) with
  | none =>
    rw [hc] at hpe
    obtain ⟨er, hpe⟩ := opt_err hpe
    rw [hpe] at st
    exact fun H1 s1 => hQ.1 3 st H1 s1
  | some n =>
    rw [hc] at hpe
    rw [opt_ok hpe] at st
    refine fun H1 s1 => ⟨by show 1 ≤ sizeLine; decide, fun f hf => hQ.still hp st f _ (s1.trans (Same.new hf)) (s1.old hf) upd_same⟩
abbrev N_perform : List Str := ["play", "numbers", "rows", "action", "reason"]
theorem sc_perform : FnScope N_perform ["play", "numbers", "rows"] (defScope s_perform) := ⟨rfl, rfl, rfl, by decide +kernel, rfl, by decide +kernel, by decide +kernel⟩
theorem ok_perform (c : Ctx K mg) : OkF P w K mg base (L2.CX P w) 9 "perform" ["play", "numbers", "rows"] ((fun vs H Q E => ∃ p t q l g o ac h m bn br rb tx, vs = [.ref p, .ref bn, .ref br] ∧ PP H p t q l g o ac h m ∧ H br = some (.lst [.ref rb]) ∧ LN H rb tx ∧ tx.length ≤ 400 ∧ (∀ x ∈ tx, x ≤ 255) ∧ DQ Q E H p t q l g o ac h [[5], Vbndaa.toInts tx])) := by
  obtain ⟨fd, FI, bI⟩ := fn_Refused (P := P) (w := w) (base := base) c
  refine okF (f_perform c) (g_perform c) sc_perform (fun _ _ _ _ _ _ us hl => match us, hl with | [_, _, _], _ => rfl) (fun vs H Q E h => by obtain ⟨p, t, q, l, g, o, ac, h, m, bn, br, rb, tx, rfl, hp, hbr, hrb, hl, hb, hQ⟩ := h; rfl) fun cdv A outer s H vs Q E hr h => ⟨_, (pss_cons (ps_set (i := 3) sc_perform.nd rfl (Or.inl rfl) (pcall (ok_action_of c) (hr.mono (by decide)) (passes_call (takes_of rfl rfl rfl rfl) (fun _ _ _ _ h => h)) (pa_cons (pe_fldK (K := K) rfl (pv 0)) (pa_cons (pe_ix (ix_listK (K := K) rfl) (pv 2) pe_int (fun _ _ => rfl)) pa_nil))))
      (pss_cons (ps_set (i := 4) sc_perform.nd rfl (Or.inl rfl) (pmeth (E := E0) (ok_Play_reason_against c) (pv 0) (hr.mono (by decide)) passL (pa_cons (pv 3) pa_nil)))
      (pss_cons (ps_if (pt_cmpR op_ne (pv 4) (pgi (i_VALID c)) (nomark _)) (pss_one (ps_raise rfl (takes_of rfl rfl rfl rfl) (pmk_oex (er_Refused c).ox (er_Refused c).ini (er_Refused c).fnc FI (hr.mono (by decide)) bI .nil passL rfl (g_Refused c) (pa_cons (pe_op op_sub (pgi (i_INVALID c)) (pv 4)) pa_nil)))) pss_nil)
      (pss_cons (ps_expr (pmeth (E := E0) (ok_Play_perform c) (pv 0) (hr.mono (by decide)) passL (pa_cons (pv 3) pa_nil)))
      (pss_one (ps_ret (pe_lst (pa_cons (pe_callB (lenK (K := K) rfl) (by rfl) (b_len c) boot_len (pa_cons (pe_fldK (K := K) rfl (pv 0)) pa_nil)) pa_nil)))))))), ?_⟩
  obtain ⟨p, t, q, l, g, o, ac, h, m, bn, br, rb, tx, rfl, hp, hbr, hrb, hl, hb, hQ⟩ := h
  obtain ⟨dx, dxt, h1, h2⟩ := players_at hp.pl
  have st : Vbndaa.stepLists (some h) [[5], Vbndaa.toInts tx] = if Vbndaa.isByteList (Vbndaa.toInts tx) 400 = false then Vbndaa.fail (some h) 1 else match Vbndaa.parseAction h.room.table (Vbndaa.toNats (Vbndaa.toInts tx)) with
    | .error _ => Vbndaa.fail (some h) 3
    | .ok a => match Vbndaa.applyAction h.room a with
      | .error k => Vbndaa.fail (some h) (10 + k)
      | .ok r => (some ⟨r, h.actions ++ [a]⟩, [0, (h.actions.length : Int) + 1]) := rfl
  rw [bytes_ok hl hb, if_neg (by decide), nats_ints] at st
  have hpe := parse_act_eq hp.wh.tab.1 tx
  refine ⟨_, rfl, p, _, _, _, _, rfl, h1, cl_Play c, na_Play_table c, rfl, _, rfl, br, _, (0 : Nat), _, rfl, rfl, SqL.of hbr, atI_nat rfl, t, q, _, rb, tx, rfl, hp.pl.tb, hrb, by omega, ?_⟩
  cases hc : actOf h.room.table (wordsOf tx) with
  | none =>
    rw [hc] at hpe
    obtain ⟨er, hpe⟩ := opt_err hpe
    rw [hpe] at st
    exact fun H1 s1 => hQ.1 3 st H1 s1
  | some x =>
    rw [hc] at hpe
    rw [opt_ok hpe] at st
    simp only at st
    have hll := toks_len tx 0
    have hwa : Wa h.room.table x := wa_act (by unfold wordsOf; rw [List.length_map]; omega) hc
    refine fun a H1 s1 hA => ?_
    obtain ⟨dxa, b, ha1, ha2, ha3, ha4⟩ := id hA
    have hp1 := hp.same s1
    refine ⟨_, rfl, p, _, _, rfl, s1 _ _ h1, rfl, _, rfl, p, t, q, l, g, o, ac, h, m, a, x, rfl, hp1.pl, hp.wh, hA.at, hwa, fun H2 s2 => ⟨_, rfl, rfl, _, rfl, ?_⟩⟩
    have s12 := s1.trans s2
    cases hap : Vbndaa.applyAction h.room x with
    | error k =>
      rw [hap] at st
      simp only at st
      have hk := app_err hap
      have hrk : reasonOf h.room x = k := reason_err hap
      rw [hrk]
      refine ite2 (fun _ => ?_) (fun e => absurd (by
        show (!decide (nv k = V.int 0)) = true
        rw [decide_eq_false (show ¬ nv k = V.int 0 from fun e => hk (nv_inj (b := 0) e))]
        rfl) e)
      have ez : (-10 - (k : Int)) = -((10 + k : Nat) : Int) := by omega
      refine ⟨_, rfl, _, _, rfl, rfl, mk_err1 fun d hd => ?_⟩
      have := hQ.1 (10 + k) st H2 s12 d hd
      rw [← ez] at this
      exact this
    | ok r =>
      rw [hap] at st
      simp only at st
      have hrk : reasonOf h.room x = 0 := reason_ok hap
      rw [hrk]
      refine ite2 (fun e => absurd e (by decide)) (fun _ => ?_)
      have hp2 := hp.same s12
      have hnm : ∀ y, H y = none → y ∉ [l, g, o, ac] := fun y hy => by
        obtain ⟨_, l1, _⟩ := hp.pl.lay
        obtain ⟨_, g1, _⟩ := hp.pl.grs
        obtain ⟨_, c1, _⟩ := hp.pl.act
        simp only [List.mem_cons, List.not_mem_nil, or_false, not_or]
        exact ⟨(ne_of_none l1 hy).symm, (ne_of_none g1 hy).symm, (ne_of_none (H := H) hp.pl.own hy).symm, (ne_of_none c1 hy).symm⟩
      have hAd : ActAt (drp H2 [l, g, o, ac]) a x := ⟨dxa, b, drp_at (s2 _ _ ha1) (hnm a ha3), drp_at (s2 _ _ ha2) (hnm b ha4)⟩
      refine ⟨_, rfl, p, _, _, rfl, s12 _ _ h1, rfl, _, rfl, p, t, q, l, g, o, ac, h, m, a, x, r, rfl, hp2.pl, hp.wh, by have := hp.le; omega, hAd, hwa, hap, fun H3 b3 hp3 => ?_⟩
      obtain ⟨dx3, h13⟩ := hp3.obj
      obtain ⟨as3, c31, c32⟩ := hp3.act
      refine ⟨_, rfl, p, _, _, _, _, rfl, h13, cl_Play c, na_Play_actions c, rfl, ac, _, rfl, .inl (SqL.of c31), by show 1 ≤ sizeLine; decide, fun f hf => ?_⟩
      have b4 : But [l, g, o, ac] H (upd H3 f (.lst [.int (as3.length : Nat)])) := ((s12.but _).trans b3).trans ((Same.new hf).but _)
      have hfH : H f = none := by
        cases e : H f with
        | none => rfl
        | some u =>
          by_cases hm : f ∈ [l, g, o, ac]
          · obtain ⟨_, l1, _⟩ := hp3.lay
            obtain ⟨_, g1, _⟩ := hp3.grs
            have o1 : H3 o = some _ := hp3.own
            simp only [List.mem_cons, List.not_mem_nil, or_false] at hm
            rcases hm with q | q | q | q <;> rw [q] at hf
            · rw [l1] at hf; cases hf
            · rw [g1] at hf; cases hf
            · rw [o1] at hf; cases hf
            · rw [c31] at hf; cases hf
          · have := ((s12.but _).trans b3) f u e hm
            rw [this] at hf
            cases hf
      refine hQ.2 _ [(h.actions.length : Int) + 1] st f _ b4 hfH ?_ (hp3.same (Same.new hf))
      show upd _ f _ f = _
      rw [upd_same, c32.length, List.length_append]
      rfl
end

end VD
namespace VD
open PySem PySem.Spec PyProof.Rows L2
section
variable {P : Program} {w : World} {K : PySem.W.Frag} {mg : Str → Option Value} {base : Heap}
theorem act_line_len {z : Vbndaa.Table} (hz : Wz z) {x : Vbndaa.Action} (h : Wa z x) (hl : ∀ p o, x = .submit p o → o.length ≤ 60) : (Vbndaa.printAction z x ++ [10]).length ≤ 1000 := by
  have h1 := join_le (m := 12) fun w hw => (actW_ok hz h w hw).2
  have h2 : (actW z x).length ≤ 62 := by
    unfold actW
    cases x with
    | submit p o =>
      have := hl p o rfl
      simp only [restW, List.length_cons, List.length_map]
      omega
    | grant p b to => simp [restW]
    | claim p b => simp [restW]
  rw [actW_print] at h1
  rw [List.length_append]
  show _ + 1 ≤ 1000
  have : (actW z x).length * (12 + 1) ≤ 62 * 13 := Nat.mul_le_mul h2 (Nat.le_refl _)
  omega
theorem app_short : ∀ (l : List Vbndaa.Action) (r : Vbndaa.Room) (i n : Nat), Vbndaa.cardCount r.table = n → Vbndaa.firstInvalidAction i r l = none → ∀ x ∈ l, ∀ p o, x = .submit p o → o.length = n
  | [], _, _, _, _, _, x, hx => by cases hx
  | a :: l, r, i, n, hn, h, x, hx => by
    intro p o e
    rw [first_cons] at h
    cases ha : Vbndaa.applyAction r a with
    | error k => rw [ha] at h; cases h
    | ok t =>
      rw [ha] at h
      obtain ⟨h1, h2⟩ := app_cases ha
      rcases List.mem_cons.mp hx with q | q
      · subst q
        subst e
        have := (isPerm_iff.mp h2.2.1).1
        rw [this, hn]
      · exact app_short l t (i + 1) n (by rw [h1]; exact hn) h x q p o e
abbrev N_print_log : List Str := ["play", "numbers", "rows", "found", "action"]
theorem sc_print_log : FnScope N_print_log ["play", "numbers", "rows"] (defScope s_print_log) := ⟨rfl, rfl, rfl, by decide +kernel, rfl, by decide +kernel, by decide +kernel⟩
theorem ok_print_log (c : Ctx K mg) : OkF P w K mg base (L2.CX P w) 4 "print_log" ["play", "numbers", "rows"] ((fun vs H Q E => ∃ p t q l g o ac h m bn br, vs = [.ref p, .ref bn, .ref br] ∧ PP H p t q l g o ac h m ∧ m ≤ 5000 ∧ DQ Q E H p t q l g o ac h [[6]])) := by
  refine okF (f_print_log c) (g_print_log c) sc_print_log (fun _ _ _ _ _ _ us hl => match us, hl with | [_, _, _], _ => rfl) (fun vs H Q E h => by obtain ⟨p, t, q, l, g, o, ac, h, m, bn, br, rfl, hp, hm, hQ⟩ := h; rfl) fun cdv A outer s H vs Q E hr h => ⟨_, (pss_cons (ps_set (i := 3) sc_print_log.nd rfl (Or.inl rfl) (pe_lst pa_nil))
      (pss_cons (ps_for PassesOwn.leaving rfl (pi_list (pe_fldK (K := K) rfl (pv 0))) (pg_name (i := 4) sc_print_log.nd rfl (Or.inl rfl)) (pss_one (ps_expr (pe_bm PySem.F.plainAttrs_list PySem.F.slot_list_extend PySem.F.type_list_extend mt_extend (pv 3) (pa_cons (pcall (E := E0) (ok_action_line c) (hr.mono (by decide)) passL (pa_cons (pe_fldK (K := K) rfl (pv 0)) (pa_cons (pv 4) pa_nil))) pa_nil)))))
      (pss_one (ps_ret (pcall (E := E0) (ok_counted c) (hr.mono (by decide)) passL (pa_cons (pv 3) pa_nil)))))), ?_⟩
  obtain ⟨p, t, q, l, g, o, ac, h, m, bn, br, rfl, hp, hm, hQ⟩ := h
  obtain ⟨dx, dxt, h1, h2⟩ := players_at hp.pl
  obtain ⟨as, c1, c2⟩ := hp.pl.act
  have hw := hp.wh.tab.1
  have hn : Vbndaa.cardCount h.room.table ≤ 52 := hp.wh.tab.2.1
  have hlen : ∀ x ∈ h.actions, (Vbndaa.printAction h.room.table x ++ [10]).length ≤ 1000 := fun x hx => act_line_len hw (hp.wh.wa x hx) fun p o e => by
    have := app_short h.actions _ 0 _ rfl hp.wh.ok x hx p o e
    have h3 : o.length = Vbndaa.cardCount h.room.table := this
    omega
  have hacts := hp.wh.acts
  refine ⟨Nat.zero_le _, fun f hf => ?_⟩
  have s0 := Same.new (o := .lst []) hf
  refine ⟨_, rfl, p, _, _, _, _, rfl, s0 _ _ h1, cl_Play c, na_Play_actions c, rfl, ac, rfl, ⟨_, SqL.of (s0 _ _ c1)⟩, for_list (K := K) (a := ac) (xs := as) (fun i σ H' => ∃ x, σ = [some (.ref p), some (.ref bn), some (.ref br), some (.ref f), x] ∧ AcAt RV0 H f (((h.actions.take i).flatMap fun a => Vbndaa.printAction h.room.table a ++ [10]).map nv) H') ⟨none, rfl, AcAt.start hf⟩ (fun i σ H' _ ⟨_, _, y⟩ => SqL.of (y.same0 _ _ c1)) ?_ ?_⟩
  · rintro i v σ H2 hv ⟨x0, rfl, y⟩
    obtain ⟨act, hact, aa, rfl, haa⟩ := pr_get c2 hv
    have s2 := y.same0
    obtain ⟨us, hus, hup⟩ := y.done rv0_mono
    obtain rfl := rv0_eq hup
    have hwx := hp.wh.wa act (List.mem_of_getElem? hact)
    have hle : ((h.actions.take i).flatMap fun a => Vbndaa.printAction h.room.table a ++ [10]).length ≤ 5000 * 1000 := by
      have := flat_le (m := 1000) (l := h.actions.take i) (f := fun a => Vbndaa.printAction h.room.table a ++ [10]) fun x hx => hlen x (List.mem_of_mem_take hx)
      refine Nat.le_trans this (Nat.mul_le_mul ?_ (Nat.le_refl _))
      rw [List.length_take]
      omega
    have hla := hlen act (List.mem_of_getElem? hact)
    refine ⟨_, rfl, .inl ⟨rfl, _, SqL.of hus⟩, ?_⟩
    refine ⟨_, rfl, p, _, _, _, _, rfl, s2 _ _ h1, cl_Play c, na_Play_table c, rfl, _, rfl, t, q, _, aa, act, rfl, (hp.same s2).pl.tb, (haa.same drp_same).same s2, hwx, fun a3 H3 s3 ha3 hl3 => ?_⟩
    refine ⟨f, a3, _, _, rfl, rfl, s3 _ _ hus, hl3, by rw [sizeLine_eq, List.length_map, List.length_map]; omega, ?_⟩
    refine ⟨_, rfl, ?_⟩
    have y3 := (y.grow rv0_mono s3).adds (s3 _ _ hus) (rv0_self (H := drp _ [f]) ((Vbndaa.printAction h.room.table act ++ [10]).map nv))
    rw [← List.map_append] at y3 ⊢
    rw [take_succ hact, List.flatMap_append, List.flatMap_cons, List.flatMap_nil, List.append_nil]
    exact y3
  · rintro σ H2 ⟨x0, rfl, y⟩
    have s2 := y.same0
    obtain ⟨us, hus, hup⟩ := y.done rv0_mono
    obtain rfl := rv0_eq hup
    rw [c2.length, List.take_of_length_le (Nat.le_refl _)] at hus
    have hz : (Vbndaa.printActions h.room.table h.actions).length ≤ 10000000 := by
      have := flat_le (m := 1000) (l := h.actions) (f := fun a => Vbndaa.printAction h.room.table a ++ [10]) hlen
      have h3 : h.actions.length * 1000 ≤ 5000 * 1000 := Nat.mul_le_mul (by omega) (Nat.le_refl _)
      show ((h.actions.flatMap fun a => Vbndaa.printAction h.room.table a ++ [10])).length ≤ _
      omega
    refine ⟨_, rfl, f, _, rfl, hus, hz, fun f2 H3 s3 hf2 hl2 => hQ.still hp rfl f2 H3 (s2.trans s3) (s2.old hf2) hl2⟩
abbrev N_validate_log : List Str := ["play", "numbers", "rows", "actions", "found"]
theorem sc_validate_log : FnScope N_validate_log ["play", "numbers", "rows"] (defScope s_validate_log) := ⟨rfl, rfl, rfl, by decide +kernel, rfl, by decide +kernel, by decide +kernel⟩
theorem ok_validate_log (c : Ctx K mg) : OkF P w K mg base (L2.CX P w) 9 "validate_log" ["play", "numbers", "rows"] ((fun vs H Q E => ∃ p t q l g o ac h m bn br rb tx, vs = [.ref p, .ref bn, .ref br] ∧ PP H p t q l g o ac h m ∧ H br = some (.lst [.ref rb]) ∧ LN H rb tx ∧ tx.length ≤ 3000 ∧ (∀ x ∈ tx, x ≤ 255) ∧ DQ Q E H p t q l g o ac h [[7], Vbndaa.toInts tx])) := by
  refine okF (f_validate_log c) (g_validate_log c) sc_validate_log (fun _ _ _ _ _ _ us hl => match us, hl with | [_, _, _], _ => rfl) (fun vs H Q E h => by obtain ⟨p, t, q, l, g, o, ac, h, m, bn, br, rb, tx, rfl, hp, hbr, hrb, hl, hb, hQ⟩ := h; rfl) fun cdv A outer s H vs Q E hr h => ⟨_, (pss_cons (ps_set (i := 3) sc_validate_log.nd rfl (Or.inl rfl) (pcall (ok_log_of c) (hr.mono (by decide)) (passes_call (takes_of rfl rfl rfl rfl) (fun _ _ _ _ h => h)) (pa_cons (pe_fldK (K := K) rfl (pv 0)) (pa_cons (pe_ix (ix_listK (K := K) rfl) (pv 2) pe_int (fun _ _ => rfl)) pa_nil))))
      (pss_cons (ps_set (i := 4) sc_validate_log.nd rfl (Or.inl rfl) (pcall (E := E0) (ok_first_invalid c) (hr.mono (by decide)) passL (pa_cons (pe_fldK (K := K) rfl (pv 0)) (pa_cons (pv 3) pa_nil))))
      (pss_cons (ps_if (pt_cmpR op_isN (pv 4) pe_non (nomark _)) (pss_one (ps_ret (pe_lst (pa_cons pe_int (pa_cons (pe_callB (lenK (K := K) rfl) (by rfl) (b_len c) boot_len (pa_cons (pv 3) pa_nil)) pa_nil))))) pss_nil)
      (pss_one (ps_ret (pe_op op_cat (pe_lst (pa_cons pe_int pa_nil)) (pe_callTy (listK (K := K) rfl) (by rfl) (b_list c) boot_list (pa_cons (pv 4) pa_nil)))))))), ?_⟩
  obtain ⟨p, t, q, l, g, o, ac, h, m, bn, br, rb, tx, rfl, hp, hbr, hrb, hl, hb, hQ⟩ := h
  obtain ⟨dx, dxt, h1, h2⟩ := players_at hp.pl
  have st : Vbndaa.stepLists (some h) [[7], Vbndaa.toInts tx] = if Vbndaa.isByteList (Vbndaa.toInts tx) 3000 = false then Vbndaa.fail (some h) 1 else match Vbndaa.parseActions h.room.table (Vbndaa.toNats (Vbndaa.toInts tx)) with
    | .error _ => Vbndaa.fail (some h) 3
    | .ok l => match Vbndaa.firstInvalidAction 0 (Vbndaa.newRoom h.room.table) l with
      | none => Vbndaa.succeed (some h) (Vbndaa.toInts [0, l.length])
      | some w => Vbndaa.succeed (some h) (Vbndaa.toInts [1, w.1, w.2.1, w.2.2]) := rfl
  rw [bytes_ok hl hb, if_neg (by decide), nats_ints] at st
  have hpe := parse_acts_eq hp.wh.tab.1 tx
  refine ⟨_, rfl, p, _, _, _, _, rfl, h1, cl_Play c, na_Play_table c, rfl, _, rfl, br, _, (0 : Nat), _, rfl, rfl, SqL.of hbr, atI_nat rfl, t, q, _, rb, tx, rfl, hp.pl.tb, hrb, by omega, ?_⟩
  cases hc : logOf h.room.table tx with
  | none =>
    rw [hc] at hpe
    obtain ⟨er, hpe⟩ := opt_err hpe
    rw [hpe] at st
    exact fun H1 s1 => hQ.1 3 st H1 s1
  | some xs =>
    rw [hc] at hpe
    rw [opt_ok hpe] at st
    simp only at st
    obtain ⟨hwa, hxl⟩ := wa_log (by omega) hc
    refine fun a H1 us s1 ha hus hup => ?_
    have hp1 := hp.same s1
    refine ⟨_, rfl, p, _, _, _, _, rfl, s1 _ _ h1, cl_Play c, na_Play_table c, rfl, _, rfl, t, q, _, a, xs, us, rfl, hp1.pl.tb, hp.wh.tab, hus, hup, hwa, by omega, ?_⟩
    cases hf : Vbndaa.firstInvalidAction 0 (Vbndaa.newRoom h.room.table) xs with
    | none =>
      rw [hf] at st
      refine fun H2 s2 => ⟨_, rfl, rfl, _, rfl, iteT ⟨_, rfl, a, _, rfl, .inl (SqL.of (s2 _ _ hus)), by show 2 ≤ sizeLine; decide, fun f hf2 => ?_⟩⟩
      have s3 := s1.trans s2
      refine hQ.still hp st f _ (s3.trans (Same.new hf2)) (s3.old hf2) ?_
      show upd _ f _ f = _
      rw [upd_same, hup.length]
      rfl
    | some x =>
      rw [hf] at st
      refine fun T H2 s2 hT => ⟨_, rfl, rfl, _, rfl, iteF ?_⟩
      refine ⟨by show 1 ≤ sizeLine; decide, fun q1 hq1 => ?_⟩
      have s3 := Same.new (o := .lst [.int 1]) hq1
      refine ⟨_, rfl, T, _, rfl, .inr (SqT.of (s3 _ _ hT)), fun q2 hq2 => ?_⟩
      have s4 := s3.trans (Same.new (o := .lst [nv x.1, nv x.2.1, nv x.2.2]) hq2)
      have s14 := (s1.trans s2).trans s4
      refine li_cat (xs := [1]) (ys := Vbndaa.toInts [x.1, x.2.1, x.2.2]) ((upd_ne (ne_of_none upd_same hq2)).trans upd_same) upd_same (by show 1 + 3 ≤ 16000000; decide) fun q3 H4 s6 hq3 hl3 => hQ.still hp st q3 H4 (s14.trans s6) (s14.old hq3) hl3
end

end VD
namespace VD
open PySem PySem.Spec PyProof.Rows L2
section
variable {P : Program} {w : World} {K : PySem.W.Frag} {mg : Str → Option Value} {base : Heap}
theorem PP.small {H : Hp} {p t q l g o ac : Addr} {h : Vbndaa.Session} {m : Nat} (x : PP H p t q l g o ac h m) : Vbndaa.cardCount h.room.table ≤ 52 ∧ h.room.table.players.length ≤ 6 ∧ h.room.permutations.length = h.room.table.players.length := by
  obtain ⟨_, _, _, w4, _⟩ := x.wh.tab.1
  exact ⟨x.wh.tab.2.1, w4, x.wh.perms⟩
theorem perms_len (r : Vbndaa.Room) : (Vbndaa.permutationsOf r).length = r.permutations.length := by
  unfold Vbndaa.permutationsOf
  rw [List.length_map]
abbrev N_deal : List Str := ["play", "numbers", "rows"]
theorem sc_deal : FnScope N_deal ["play", "numbers", "rows"] (defScope s_deal) := ⟨rfl, rfl, rfl, by decide +kernel, rfl, by decide +kernel, by decide +kernel⟩
theorem ok_deal (c : Ctx K mg) : OkF P w K mg base (L2.CX P w) 6 "deal" ["play", "numbers", "rows"] ((fun vs H Q E => ∃ p t q l g o ac h m bn br, vs = [.ref p, .ref bn, .ref br] ∧ PP H p t q l g o ac h m ∧ DQ Q E H p t q l g o ac h [[8]])) := by
  refine okF (f_deal c) (g_deal c) sc_deal (fun _ _ _ _ _ _ us hl => match us, hl with | [_, _, _], _ => rfl) (fun vs H Q E h => by obtain ⟨p, t, q, l, g, o, ac, h, m, bn, br, rfl, hp, hQ⟩ := h; rfl) fun cdv A outer s H vs Q E hr h => ⟨_, (pss_cons (ps_expr (pcall (ok_need_all c) (hr.mono (by decide)) (passes_call (takes_of rfl rfl rfl rfl) (fun _ _ _ _ h => h)) (pa_cons (pv 0) pa_nil)))
      (pss_one (ps_ret (pcall (E := E0) (ok_counted c) (hr.mono (by decide)) passL (pa_cons (pcall (E := E0) (ok_deal_of c) (hr.mono (by decide)) passL (pa_cons (pv 0) pa_nil)) pa_nil))))), ?_⟩
  obtain ⟨p, t, q, l, g, o, ac, h, m, bn, br, rfl, hp, hQ⟩ := h
  obtain ⟨hn, hpl, hpm⟩ := hp.small
  have st : Vbndaa.stepLists (some h) [[8]] = if Vbndaa.allSubmitted h.room = false then Vbndaa.fail (some h) 7 else Vbndaa.succeed (some h) (Vbndaa.withLength (Vbndaa.deal h.room)) := rfl
  refine ⟨_, rfl, p, t, q, l, g, o, ac, h, m, rfl, hp, fun H1 s1 => ⟨fun hs => ?_, fun hs => ?_⟩⟩
  · rw [hs, if_neg (by decide)] at st
    have hL := laid_of hp.wh hs
    have hp1 := hp.same s1
    have hdl : ((Vbndaa.permutationsOf h.room).foldl Vbndaa.compose (List.range (Vbndaa.cardCount h.room.table))).length ≤ 10000000 := by
      rw [deal_is _ fun w hw => hL.lt hw, List.length_map, List.length_range]
      omega
    refine ⟨_, rfl, p, t, q, l, g, o, ac, h, _, rfl, hp1.pl, hL, by omega, by rw [perms_len]; omega, fun a H2 s2 ha hl => ⟨a, _, rfl, hl, hdl, fun f H3 s3 hf hf3 => ?_⟩⟩
    exact hQ.still hp st f H3 ((s1.trans s2).trans s3) ((s1.trans s2).old hf) hf3
  · rw [hs, if_pos rfl] at st
    exact hQ.1 7 st H1 s1
abbrev N_trace : List Str := ["play", "numbers", "rows"]
theorem sc_trace : FnScope N_trace ["play", "numbers", "rows"] (defScope s_trace) := ⟨rfl, rfl, rfl, by decide +kernel, rfl, by decide +kernel, by decide +kernel⟩
theorem ok_trace (c : Ctx K mg) : OkF P w K mg base (L2.CX P w) 6 "trace" ["play", "numbers", "rows"] ((fun vs H Q E => ∃ p t q l g o ac h m bn br n, vs = [.ref p, .ref bn, .ref br] ∧ PP H p t q l g o ac h m ∧ LI H bn [((n : Nat) : Int)] ∧ n ≤ 51 ∧ DQ Q E H p t q l g o ac h [[9, (n : Int)]])) := by
  refine okF (f_trace c) (g_trace c) sc_trace (fun _ _ _ _ _ _ us hl => match us, hl with | [_, _, _], _ => rfl) (fun vs H Q E h => by obtain ⟨p, t, q, l, g, o, ac, h, m, bn, br, n, rfl, hp, hb, hn51, hQ⟩ := h; rfl) fun cdv A outer s H vs Q E hr h => ⟨_, (pss_cons (ps_expr (pcall (ok_need_card c) (hr.mono (by decide)) (passes_call (takes_of rfl rfl rfl rfl) (fun _ _ _ _ h => h)) (pa_cons (pv 0) (pa_cons (pe_ix (ix_listK (K := K) rfl) (pv 1) pe_int (fun _ _ => rfl)) pa_nil))))
      (pss_cons (ps_expr (pcall (ok_need_all c) (hr.mono (by decide)) (passes_call (takes_of rfl rfl rfl rfl) (fun _ _ _ _ h => h)) (pa_cons (pv 0) pa_nil)))
      (pss_one (ps_ret (pcall (E := E0) (ok_counted c) (hr.mono (by decide)) passL (pa_cons (pcall (E := E0) (ok_trace_of c) (hr.mono (by decide)) passL (pa_cons (pv 0) (pa_cons (pe_ix (ix_listK (K := K) rfl) (pv 1) pe_int (fun _ _ => rfl)) pa_nil))) pa_nil)))))), ?_⟩
  obtain ⟨p, t, q, l, g, o, ac, h, m, bn, br, n, rfl, hp, hb, hn51, hQ⟩ := h
  obtain ⟨hn, hpl, hpm⟩ := hp.small
  have st : Vbndaa.stepLists (some h) [[9, (n : Int)]] = if Vbndaa.isPositionArgument (n : Int) = false then Vbndaa.fail (some h) 1 else if Vbndaa.positionExists h (n : Int) = false then Vbndaa.fail (some h) 4 else if Vbndaa.allSubmitted h.room = false then Vbndaa.fail (some h) 7 else Vbndaa.succeed (some h) (Vbndaa.withLength (Vbndaa.trace h.room n)) := rfl
  rw [pos_arg hn51, pos_ex, if_neg (by decide)] at st
  refine ⟨_, rfl, _, rfl, bn, _, (0 : Nat), _, rfl, rfl, SqL.of hb, atI_nat rfl, p, t, q, l, g, o, ac, h, m, n, rfl, hp, fun c1 => ?_, fun c1 => ?_⟩
  · rw [decide_eq_true c1, if_neg (by decide)] at st
    refine ⟨_, rfl, p, t, q, l, g, o, ac, h, m, rfl, hp, fun H1 s1 => ⟨fun hs => ?_, fun hs => ?_⟩⟩
    · rw [hs, if_neg (by decide)] at st
      have hL := laid_of hp.wh hs
      have hp1 := hp.same s1
      have htl := trace_len (Vbndaa.permutationsOf h.room).reverse n
      rw [List.length_reverse, perms_len] at htl
      refine ⟨_, rfl, _, rfl, bn, _, (0 : Nat), _, rfl, rfl, SqL.of (s1 _ _ hb), atI_nat rfl, p, t, q, l, g, o, ac, h, n, _, _, rfl, hp1.pl, hL, c1, by rw [perms_len]; omega, fun a H2 s2 ha hl => ⟨a, _, rfl, hl, by omega, fun f H3 s3 hf hf3 => ?_⟩⟩
      exact hQ.still hp st f H3 ((s1.trans s2).trans s3) ((s1.trans s2).old hf) hf3
    · rw [hs, if_pos rfl] at st
      exact hQ.1 7 st H1 s1
  · rw [decide_eq_false c1, if_pos rfl] at st
    exact hQ.1 4 st H (Same.refl _)
abbrev N_tell_owners : List Str := ["play", "numbers", "rows"]
theorem sc_tell_owners : FnScope N_tell_owners ["play", "numbers", "rows"] (defScope s_tell_owners) := ⟨rfl, rfl, rfl, by decide +kernel, rfl, by decide +kernel, by decide +kernel⟩
theorem ok_tell_owners (c : Ctx K mg) : OkF P w K mg base (L2.CX P w) 2 "tell_owners" ["play", "numbers", "rows"] ((fun vs H Q E => ∃ p t q l g o ac h m bn br, vs = [.ref p, .ref bn, .ref br] ∧ PP H p t q l g o ac h m ∧ DQ Q E H p t q l g o ac h [[21]])) := by
  refine okF (f_tell_owners c) (g_tell_owners c) sc_tell_owners (fun _ _ _ _ _ _ us hl => match us, hl with | [_, _, _], _ => rfl) (fun vs H Q E h => by obtain ⟨p, t, q, l, g, o, ac, h, m, bn, br, rfl, hp, hQ⟩ := h; rfl) fun cdv A outer s H vs Q E hr h => ⟨_, (pss_one (ps_ret (pcall (E := E0) (ok_counted c) (hr.mono (by decide)) passL (pa_cons (pe_callTy (listK (K := K) rfl) (by rfl) (b_list c) boot_list (pa_cons (pe_fldK (K := K) rfl (pv 0)) pa_nil)) pa_nil)))), ?_⟩
  obtain ⟨p, t, q, l, g, o, ac, h, m, bn, br, rfl, hp, hQ⟩ := h
  obtain ⟨dx, dxt, h1, h2⟩ := players_at hp.pl
  obtain ⟨hn, hpl, hpm⟩ := hp.small
  let on : List Nat := h.room.owners.map fun x => match x with
    | none => 0
    | some p => p + 1
  have e : h.room.owners.map ow = on.map fun (n : Nat) => (n : Int) := by
    show _ = (h.room.owners.map _).map _
    rw [List.map_map]
    refine List.map_congr_left fun x _ => ?_
    cases x <;> rfl
  have st : Vbndaa.stepLists (some h) [[21]] = Vbndaa.succeed (some h) (Vbndaa.withLength on) := rfl
  have hol : on.length ≤ 52 := by
    show (h.room.owners.map _).length ≤ 52
    rw [List.length_map, hp.wh.owns]
    exact hn
  have how := hp.pl.own
  rw [e] at how
  refine ⟨_, rfl, p, _, _, _, _, rfl, h1, cl_Play c, na_Play_owners c, rfl, o, _, rfl, .inl (SqL.of how), fun a ha => ⟨a, on, rfl, by show upd _ a _ a = _; rw [upd_same, nv_map], by omega, fun f H2 s2 hf hf2 => ?_⟩⟩
  have s1 := Same.new (o := .lst ((on.map fun (n : Nat) => (n : Int)).map V.int)) ha
  exact hQ.still hp st f H2 (s1.trans s2) (s1.old hf) hf2
abbrev N_verify_log : List Str := ["play", "numbers", "rows"]
theorem sc_verify_log : FnScope N_verify_log ["play", "numbers", "rows"] (defScope s_verify_log) := ⟨rfl, rfl, rfl, by decide +kernel, rfl, by decide +kernel, by decide +kernel⟩
theorem ok_verify_log (c : Ctx K mg) : OkF P w K mg base (L2.CX P w) 8 "verify_log" ["play", "numbers", "rows"] ((fun vs H Q E => ∃ p t q l g o ac h m bn br, vs = [.ref p, .ref bn, .ref br] ∧ PP H p t q l g o ac h m ∧ DQ Q E H p t q l g o ac h [[24]])) := by
  refine okF (f_verify_log c) (g_verify_log c) sc_verify_log (fun _ _ _ _ _ _ us hl => match us, hl with | [_, _, _], _ => rfl) (fun vs H Q E h => by obtain ⟨p, t, q, l, g, o, ac, h, m, bn, br, rfl, hp, hQ⟩ := h; rfl) fun cdv A outer s H vs Q E hr h => ⟨_, (pss_one (ps_ret (pe_lst (pa_cons (pe_callTy call_int1 (by rfl) (b_int c) (by decide +kernel) (pa_cons (pcall (E := E0) (ok_is_consistent c) (hr.mono (by decide)) passL (pa_cons (pv 0) pa_nil)) pa_nil)) pa_nil)))), ?_⟩
  obtain ⟨p, t, q, l, g, o, ac, h, m, bn, br, rfl, hp, hQ⟩ := h
  have st : Vbndaa.stepLists (some h) [[24]] = Vbndaa.succeed (some h) [Vbndaa.flag (Vbndaa.applyActions (Vbndaa.newRoom h.room.table) h.actions == h.room)] := rfl
  rw [hp.wh.log, beq_self_eq_true] at st
  refine ⟨_, rfl, p, t, q, l, g, o, ac, h, m, rfl, hp.pl, hp.wh, by have := hp.le; omega, fun H1 s1 => ?_⟩
  exact .inr ⟨_, rfl, by show 1 ≤ sizeLine; decide, fun f hf => hQ.still hp st f _ (s1.trans (Same.new hf)) (s1.old hf) upd_same⟩
abbrev N_tell_can_see : List Str := ["play", "numbers", "rows"]
theorem sc_tell_can_see : FnScope N_tell_can_see ["play", "numbers", "rows"] (defScope s_tell_can_see) := ⟨rfl, rfl, rfl, by decide +kernel, rfl, by decide +kernel, by decide +kernel⟩
theorem ok_tell_can_see (c : Ctx K mg) : OkF P w K mg base (L2.CX P w) 6 "tell_can_see" ["play", "numbers", "rows"] ((fun vs H Q E => ∃ p t q l g o ac h m bn br i n, vs = [.ref p, .ref bn, .ref br] ∧ PP H p t q l g o ac h m ∧ LI H bn [((i : Nat) : Int), ((n : Nat) : Int)] ∧ i ≤ 5 ∧ n ≤ 51 ∧ DQ Q E H p t q l g o ac h [[10, (i : Int), (n : Int)]])) := by
  refine okF (f_tell_can_see c) (g_tell_can_see c) sc_tell_can_see (fun _ _ _ _ _ _ us hl => match us, hl with | [_, _, _], _ => rfl) (fun vs H Q E h => by obtain ⟨p, t, q, l, g, o, ac, h, m, bn, br, i, n, rfl, hp, hb, hi5, hn51, hQ⟩ := h; rfl) fun cdv A outer s H vs Q E hr h => ⟨_, (pss_cons (ps_expr (pcall (ok_need_player c) (hr.mono (by decide)) (passes_call (takes_of rfl rfl rfl rfl) (fun _ _ _ _ h => h)) (pa_cons (pv 0) (pa_cons (pe_ix (ix_listK (K := K) rfl) (pv 1) pe_int (fun _ _ => rfl)) pa_nil))))
      (pss_cons (ps_expr (pcall (ok_need_card c) (hr.mono (by decide)) (passes_call (takes_of rfl rfl rfl rfl) (fun _ _ _ _ h => h)) (pa_cons (pv 0) (pa_cons (pe_ix (ix_listK (K := K) rfl) (pv 1) pe_int (fun _ _ => rfl)) pa_nil))))
      (pss_one (ps_ret (pe_lst (pa_cons (pe_callTy call_int1 (by rfl) (b_int c) (by decide +kernel) (pa_cons (pcall (E := E0) (ok_can_see c) (hr.mono (by decide)) passL (pa_cons (pv 0) (pa_cons (pe_ix (ix_listK (K := K) rfl) (pv 1) pe_int (fun _ _ => rfl)) (pa_cons (pe_ix (ix_listK (K := K) rfl) (pv 1) pe_int (fun _ _ => rfl)) pa_nil)))) pa_nil)) pa_nil)))))), ?_⟩
  obtain ⟨p, t, q, l, g, o, ac, h, m, bn, br, i, n, rfl, hp, hb, hi5, hn51, hQ⟩ := h
  have st : Vbndaa.stepLists (some h) [[10, (i : Int), (n : Int)]] = if (Vbndaa.inRange (i : Int) 0 5 && Vbndaa.isPositionArgument (n : Int)) = false then Vbndaa.fail (some h) 1 else if (Vbndaa.playerExists h (i : Int) && Vbndaa.positionExists h (n : Int)) = false then Vbndaa.fail (some h) 4 else Vbndaa.succeed (some h) [Vbndaa.flag (Vbndaa.canSee h.room i n)] := rfl
  rw [pos_arg hn51, pos_ex, ply_ex, show Vbndaa.inRange (i : Int) 0 5 = true from in_range (a := 0) (b := 5) (Nat.zero_le _) hi5, if_neg (by decide)] at st
  refine ⟨_, rfl, _, rfl, bn, _, (0 : Nat), _, rfl, rfl, SqL.of hb, atI_nat rfl, p, t, q, l, g, o, ac, h, m, i, rfl, hp, fun c1 => ?_, fun c1 => ?_⟩
  · refine ⟨_, rfl, _, rfl, bn, _, (1 : Nat), _, rfl, rfl, SqL.of hb, atI_nat rfl, p, t, q, l, g, o, ac, h, m, n, rfl, hp, fun c2 => ?_, fun c2 => ?_⟩
    · rw [decide_eq_true c1, decide_eq_true c2, if_neg (by decide)] at st
      refine ⟨_, rfl, _, rfl, bn, _, (0 : Nat), _, rfl, rfl, SqL.of hb, atI_nat rfl, _, rfl, bn, _, (1 : Nat), _, rfl, rfl, SqL.of hb, atI_nat rfl, p, t, q, l, g, o, ac, h, i, n, rfl, hp.pl, hp.wh.tab.1, fun H1 s1 => .inr ⟨_, rfl, by show 1 ≤ sizeLine; decide, fun f hf => ?_⟩⟩
      exact hQ.still hp st f _ (s1.trans (Same.new hf)) (s1.old hf) upd_same
    · rw [decide_eq_true c1, decide_eq_false c2, Bool.and_false, if_pos rfl] at st
      exact hQ.1 4 st H (Same.refl _)
  · rw [decide_eq_false c1, Bool.false_and, if_pos rfl] at st
    exact hQ.1 4 st H (Same.refl _)
abbrev N_tell_missing_grants : List Str := ["play", "numbers", "rows"]
theorem sc_tell_missing_grants : FnScope N_tell_missing_grants ["play", "numbers", "rows"] (defScope s_tell_missing_grants) := ⟨rfl, rfl, rfl, by decide +kernel, rfl, by decide +kernel, by decide +kernel⟩
theorem ok_tell_missing_grants (c : Ctx K mg) : OkF P w K mg base (L2.CX P w) 6 "tell_missing_grants" ["play", "numbers", "rows"] ((fun vs H Q E => ∃ p t q l g o ac h m bn br i n, vs = [.ref p, .ref bn, .ref br] ∧ PP H p t q l g o ac h m ∧ LI H bn [((i : Nat) : Int), ((n : Nat) : Int)] ∧ i ≤ 5 ∧ n ≤ 51 ∧ DQ Q E H p t q l g o ac h [[22, (i : Int), (n : Int)]])) := by
  refine okF (f_tell_missing_grants c) (g_tell_missing_grants c) sc_tell_missing_grants (fun _ _ _ _ _ _ us hl => match us, hl with | [_, _, _], _ => rfl) (fun vs H Q E h => by obtain ⟨p, t, q, l, g, o, ac, h, m, bn, br, i, n, rfl, hp, hb, hi5, hn51, hQ⟩ := h; rfl) fun cdv A outer s H vs Q E hr h => ⟨_, (pss_cons (ps_expr (pcall (ok_need_player c) (hr.mono (by decide)) (passes_call (takes_of rfl rfl rfl rfl) (fun _ _ _ _ h => h)) (pa_cons (pv 0) (pa_cons (pe_ix (ix_listK (K := K) rfl) (pv 1) pe_int (fun _ _ => rfl)) pa_nil))))
      (pss_cons (ps_expr (pcall (ok_need_card c) (hr.mono (by decide)) (passes_call (takes_of rfl rfl rfl rfl) (fun _ _ _ _ h => h)) (pa_cons (pv 0) (pa_cons (pe_ix (ix_listK (K := K) rfl) (pv 1) pe_int (fun _ _ => rfl)) pa_nil))))
      (pss_one (ps_ret (pcall (E := E0) (ok_counted c) (hr.mono (by decide)) passL (pa_cons (pcall (E := E0) (ok_missing_grants c) (hr.mono (by decide)) passL (pa_cons (pv 0) (pa_cons (pe_ix (ix_listK (K := K) rfl) (pv 1) pe_int (fun _ _ => rfl)) (pa_cons (pe_ix (ix_listK (K := K) rfl) (pv 1) pe_int (fun _ _ => rfl)) pa_nil)))) pa_nil)))))), ?_⟩
  obtain ⟨p, t, q, l, g, o, ac, h, m, bn, br, i, n, rfl, hp, hb, hi5, hn51, hQ⟩ := h
  have st : Vbndaa.stepLists (some h) [[22, (i : Int), (n : Int)]] = if (Vbndaa.inRange (i : Int) 0 5 && Vbndaa.isPositionArgument (n : Int)) = false then Vbndaa.fail (some h) 1 else if (Vbndaa.playerExists h (i : Int) && Vbndaa.positionExists h (n : Int)) = false then Vbndaa.fail (some h) 4 else Vbndaa.succeed (some h) (Vbndaa.withLength (Vbndaa.missingGrants h.room i n)) := rfl
  rw [pos_arg hn51, pos_ex, ply_ex, show Vbndaa.inRange (i : Int) 0 5 = true from in_range (a := 0) (b := 5) (Nat.zero_le _) hi5, if_neg (by decide)] at st
  obtain ⟨hn, hpl, hpm⟩ := hp.small
  have hml : (Vbndaa.missingGrants h.room i n).length ≤ 6 := by
    unfold Vbndaa.missingGrants
    refine Nat.le_trans (List.length_filter_le _ _) ?_
    rw [List.length_range]
    exact hpl
  refine ⟨_, rfl, _, rfl, bn, _, (0 : Nat), _, rfl, rfl, SqL.of hb, atI_nat rfl, p, t, q, l, g, o, ac, h, m, i, rfl, hp, fun c1 => ?_, fun c1 => ?_⟩
  · refine ⟨_, rfl, _, rfl, bn, _, (1 : Nat), _, rfl, rfl, SqL.of hb, atI_nat rfl, p, t, q, l, g, o, ac, h, m, n, rfl, hp, fun c2 => ?_, fun c2 => ?_⟩
    · rw [decide_eq_true c1, decide_eq_true c2, if_neg (by decide)] at st
      refine ⟨_, rfl, _, rfl, bn, _, (0 : Nat), _, rfl, rfl, SqL.of hb, atI_nat rfl, _, rfl, bn, _, (1 : Nat), _, rfl, rfl, SqL.of hb, atI_nat rfl, p, t, q, l, g, o, ac, h, i, n, rfl, hp.pl, hp.wh.tab.1, fun a H1 s1 ha hl => ⟨a, _, rfl, hl, by omega, fun f H2 s2 hf hf2 => ?_⟩⟩
      exact hQ.still hp st f H2 (s1.trans s2) (s1.old hf) hf2
    · rw [decide_eq_true c1, decide_eq_false c2, Bool.and_false, if_pos rfl] at st
      exact hQ.1 4 st H (Same.refl _)
  · rw [decide_eq_false c1, Bool.false_and, if_pos rfl] at st
    exact hQ.1 4 st H (Same.refl _)
/-- the members that exist -/
theorem seen_eq {r : Vbndaa.Room} {s : Nat} (hs : s < 64) (hn : r.table.players.length ≤ 6) (hc : s < 2 ^ r.table.players.length) : seenL r (mem6 s) = Vbndaa.positionsSeenBy r s := by
  have hm := (coal hs hn).mp hc
  unfold seenL Vbndaa.positionsSeenBy
  show List.filter _ (List.range _) = List.filter _ (List.range _)
  congr 1
  funext b
  rw [Bool.eq_iff_iff, List.any_eq_true, List.any_eq_true]
  constructor
  · rintro ⟨i, hi, hcs⟩
    exact ⟨i, List.mem_range.mpr (hm i hi), by rw [(List.mem_filter.mp hi).2, hcs]; rfl⟩
  · rintro ⟨i, hi, hb⟩
    rw [Bool.and_eq_true] at hb
    exact ⟨i, List.mem_filter.mpr ⟨List.mem_range.mpr (by have := List.mem_range.mp hi; omega), hb.1⟩, hb.2⟩
theorem mem6_len (s : Nat) : (mem6 s).length ≤ 6 := by
  unfold mem6
  refine Nat.le_trans (List.length_filter_le _ _) ?_
  rw [List.length_range]
  exact Nat.le_refl _
abbrev N_positions_seen : List Str := ["play", "numbers", "rows"]
theorem sc_positions_seen : FnScope N_positions_seen ["play", "numbers", "rows"] (defScope s_positions_seen) := ⟨rfl, rfl, rfl, by decide +kernel, rfl, by decide +kernel, by decide +kernel⟩
theorem ok_positions_seen (c : Ctx K mg) : OkF P w K mg base (L2.CX P w) 7 "positions_seen" ["play", "numbers", "rows"] ((fun vs H Q E => ∃ p t q l g o ac h m bn br s, vs = [.ref p, .ref bn, .ref br] ∧ PP H p t q l g o ac h m ∧ LI H bn [((s : Nat) : Int)] ∧ s ≤ 63 ∧ DQ Q E H p t q l g o ac h [[11, (s : Int)]])) := by
  refine okF (f_positions_seen c) (g_positions_seen c) sc_positions_seen (fun _ _ _ _ _ _ us hl => match us, hl with | [_, _, _], _ => rfl) (fun vs H Q E h => by obtain ⟨p, t, q, l, g, o, ac, h, m, bn, br, s0, rfl, hp, hb, hs63, hQ⟩ := h; rfl) fun cdv A outer s H vs Q E hr h => ⟨_, (pss_one (ps_ret (pcall (E := E0) (ok_counted c) (hr.mono (by decide)) passL (pa_cons (pcall (E := E0) (ok_seen_positions c) (hr.mono (by decide)) passL (pa_cons (pv 0) (pa_cons (pcall (ok_need_coalition c) (hr.mono (by decide)) (passes_call (takes_of rfl rfl rfl rfl) (fun _ _ _ _ h => h)) (pa_cons (pv 0) (pa_cons (pe_ix (ix_listK (K := K) rfl) (pv 1) pe_int (fun _ _ => rfl)) pa_nil))) pa_nil))) pa_nil)))), ?_⟩
  obtain ⟨p, t, q, l, g, o, ac, h, m, bn, br, s0, rfl, hp, hb, hs63, hQ⟩ := h
  obtain ⟨hn, hpl, hpm⟩ := hp.small
  have st : Vbndaa.stepLists (some h) [[11, (s0 : Int)]] = if Vbndaa.inRange (s0 : Int) 0 63 = false then Vbndaa.fail (some h) 1 else if Vbndaa.coalitionExists h (s0 : Int) = false then Vbndaa.fail (some h) 4 else Vbndaa.succeed (some h) (Vbndaa.withLength (Vbndaa.positionsSeenBy h.room s0)) := rfl
  rw [coa_ex, show Vbndaa.inRange (s0 : Int) 0 63 = true from in_range (a := 0) (b := 63) (Nat.zero_le _) hs63, if_neg (by decide)] at st
  refine ⟨_, rfl, _, rfl, _, rfl, bn, _, (0 : Nat), _, rfl, rfl, SqL.of hb, atI_nat rfl, p, t, q, l, g, o, ac, h, m, s0, rfl, hp, by omega, fun c1 a H1 s1 ha hl => ?_, fun c1 H1 s1 => ?_⟩
  · rw [decide_eq_true c1, if_neg (by decide)] at st
    rw [← seen_eq (by omega) hpl c1] at st
    have hsl : (seenL h.room (mem6 s0)).length ≤ 52 := by
      unfold seenL
      refine Nat.le_trans (List.length_filter_le _ _) ?_
      rw [List.length_range]
      exact hn
    refine ⟨p, t, q, l, g, o, ac, h, a, mem6 s0, rfl, (hp.same s1).pl, hp.wh.tab.1, by omega, hl, mem6_len s0, fun b H2 s2 hb2 hl2 => ⟨b, _, rfl, hl2, by omega, fun f H3 s3 hf hf3 => ?_⟩⟩
    exact hQ.still hp st f H3 ((s1.trans s2).trans s3) ((s1.trans s2).old hf) hf3
  · rw [decide_eq_false c1, if_pos rfl] at st
    exact hQ.1 4 st H1 s1
end

end VD
namespace VD
open PySem PySem.Spec PyProof.Rows L2
theorem mem6_has {s j : Nat} (hj : j < 6) : (mem6 s).contains j = Vbndaa.isMember s j := by
  rw [Bool.eq_iff_iff, List.contains_iff_mem]
  unfold mem6
  rw [List.mem_filter, List.mem_range]
  exact ⟨fun h => h.2, fun h => ⟨hj, h⟩⟩
theorem down_inj {n : Nat} : ∀ {R : List (List Nat)} {a b : Nat}, (∀ w ∈ R, Vbndaa.isPermutation n w = true) → a < n → b < n → downTo R a = downTo R b → a = b
  | [], a, b, _, _, _, h => h
  | o :: R, a, b, hR, ha, hb, h => by
    have hp := hR o (by simp)
    obtain ⟨h1, h2, _⟩ := isPerm_iff.mp hp
    have nd : o.Nodup := by
      rw [← h1] at hp
      exact isPerm_nodup hp
    have := down_inj (R := R) (fun w hw => hR w (by simp [hw])) (getD_lt h1 h2 ha) (getD_lt h1 h2 hb) h
    exact nd_inj nd (getD_some (d := 0) (by omega)) (by rw [this]; exact getD_some (d := 0) (by omega))
/-- a trace, place by place -/
theorem trace_at : ∀ (R : List (List Nat)) (b i : Nat), i ≤ R.length → (Vbndaa.traceFrom R b).getD i 0 = downTo (R.take i) b
  | [], b, i, h => by
    obtain rfl : i = 0 := by simpa using h
    rfl
  | o :: R, b, 0, _ => rfl
  | o :: R, b, i + 1, h => by
    show (Vbndaa.traceFrom R (o.getD b 0)).getD i 0 = _
    rw [trace_at R _ i (by simpa using h)]
    rfl
theorem fold_dedup : ∀ (l acc : List Nat), (acc ++ l).Nodup → l.foldl (fun l x => if l.contains x = true then l else l ++ [x]) acc = acc ++ l
  | [], acc, _ => by simp
  | x :: r, acc, h => by
    rw [List.foldl_cons]
    have hx : acc.contains x = false := by
      cases e : acc.contains x with
      | false => rfl
      | true =>
        have := List.contains_iff_mem.mp e
        exact absurd rfl ((List.nodup_append.mp h).2.2 x this x (by simp))
    rw [hx, if_neg (by decide), fold_dedup r (acc ++ [x]) (by rw [List.append_assoc]; exact h), List.append_assoc]
    rfl
theorem down_step {R : List (List Nat)} {i : Nat} {o : List Nat} (h : R[i]? = some o) (b : Nat) : downTo (R.take (i + 1)) b = o.getD (downTo (R.take i) b) 0 := by
  rw [take_succ h]
  unfold downTo
  rw [List.foldl_append]
  rfl
theorem known_eq {m : Nat} {h : Vbndaa.Session} {qs : List (List Nat)} {s j : Nat} (hw : Wh m h) (hq : qs = Vbndaa.permutationsOf h.room) (hL : Laid (Vbndaa.cardCount h.room.table) h.room.permutations qs) (hj : j < h.room.table.players.length) (hs : s < 64) (hc : s < 2 ^ h.room.table.players.length) :
    knP h.room qs (mem6 s) j = Vbndaa.knownEntries h.room s j := by
  have hn6 : h.room.table.players.length ≤ 6 := by
    obtain ⟨_, _, _, w4, _⟩ := hw.tab.1
    exact w4
  have hql : qs.length = h.room.table.players.length := by
    have := hw.perms
    rw [hL.eq, List.length_map] at this
    exact this
  have hqm : qs.getD j [] ∈ qs := List.mem_of_getElem? (getD_at (by omega))
  obtain ⟨hol, _⟩ := hL.lt hqm
  unfold knP Vbndaa.knownEntries
  rw [mem6_has (by omega), ← hq]
  simp only
  cases hm : Vbndaa.isMember s j with
  | true =>
    rw [if_pos rfl, if_pos rfl]
    unfold ownP
    rw [hol]
    rfl
  | false =>
    rw [if_neg (by decide), if_neg (by decide), seen_eq hs hn6 hc]
    have hsn : ∀ b ∈ Vbndaa.positionsSeenBy h.room s, b < Vbndaa.cardCount h.room.table := fun b hb => List.mem_range.mp (List.mem_filter.mp hb).1
    have hnd : (Vbndaa.positionsSeenBy h.room s).Nodup := List.nodup_iff_pairwise_ne.mpr ((List.nodup_iff_pairwise_ne.mp List.nodup_range).filter _)
    generalize Vbndaa.positionsSeenBy h.room s = bs at hsn hnd
    have hpl : Vbndaa.positionInLayer h.room j = fun b => downTo (qs.reverse.take (h.room.table.players.length - 1 - j)) b := by
      funext b
      unfold Vbndaa.positionInLayer Vbndaa.trace
      rw [← hq, trace_at _ _ _ (by rw [List.length_reverse]; omega)]
    have hperm : ∀ w ∈ qs.reverse.take (h.room.table.players.length - 1 - j), Vbndaa.isPermutation (Vbndaa.cardCount h.room.table) w = true := fun w hw2 => hL.perm w (List.mem_reverse.mp (List.mem_of_mem_take hw2))
    rw [hpl, fold_dedup _ [] (by
      rw [List.nil_append, List.nodup_iff_pairwise_ne, List.pairwise_map]
      exact (List.nodup_iff_pairwise_ne.mp hnd).imp_of_mem fun {a b} ha hb hne e => hne (down_inj hperm (hsn a ha) (hsn b hb) e))]
    unfold othP
    rw [List.nil_append, List.map_map]
    refine List.map_congr_left fun b hb => ?_
    have hrj : qs.reverse[h.room.table.players.length - 1 - j]? = some (qs.getD j []) := by
      rw [List.getElem?_reverse (by omega)]
      have : qs.length - 1 - (h.room.table.players.length - 1 - j) = j := by omega
      rw [this]
      exact getD_at (by omega)
    rw [trace_at _ _ _ (by rw [List.length_reverse]; omega), trace_at _ _ _ (by rw [List.length_reverse]; omega), down_step hrj]
    rfl
theorem possible_eq {m : Nat} {h : Vbndaa.Session} {qs : List (List Nat)} {s j b : Nat} (hw : Wh m h) (hq : qs = Vbndaa.permutationsOf h.room) (hL : Laid (Vbndaa.cardCount h.room.table) h.room.permutations qs) (hj : j < h.room.table.players.length) (hb : b < Vbndaa.cardCount h.room.table) (hs : s < 64) (hc : s < 2 ^ h.room.table.players.length) :
    posP h.room qs (mem6 s) j b = Vbndaa.possibleCards h.room s j b := by
  have hql : qs.length = h.room.table.players.length := by
    have := hw.perms
    rw [hL.eq, List.length_map] at this
    exact this
  have hx : Vbndaa.positionInLayer h.room j b = (Vbndaa.traceFrom qs.reverse b).getD (h.room.table.players.length - 1 - j) 0 := by
    unfold Vbndaa.positionInLayer Vbndaa.trace
    rw [← hq]
  have hcb : ∀ a, Vbndaa.cardBelow h.room j a = downTo (qs.take j).reverse a := fun a => by
    unfold Vbndaa.cardBelow downTo
    rw [← hq]
  have hk2 : ∀ y ∈ Vbndaa.knownEntries h.room s j, y.2 = (qs.getD j []).getD y.1 0 := fun y hy => by
    unfold Vbndaa.knownEntries at hy
    simp only at hy
    obtain ⟨c, _, rfl⟩ := List.mem_map.mp hy
    rw [hq]
  have hrj : qs.reverse[h.room.table.players.length - 1 - j]? = some (qs.getD j []) := by
    rw [List.getElem?_reverse (by omega)]
    have : qs.length - 1 - (h.room.table.players.length - 1 - j) = j := by omega
    rw [this]
    exact getD_at (by omega)
  have hdn : downTo (qs.take j).reverse ((qs.getD j []).getD ((Vbndaa.traceFrom qs.reverse b).getD (h.room.table.players.length - 1 - j) 0) 0) = downTo qs.reverse b := by
    rw [trace_at _ _ _ (by rw [List.length_reverse]; omega), ← down_step hrj]
    have e1 : (qs.take j).reverse = qs.reverse.drop (h.room.table.players.length - 1 - j + 1) := by
      rw [List.drop_reverse]
      congr 2
      omega
    rw [e1]
    unfold downTo
    rw [← List.foldl_append, List.take_append_drop]
  unfold posP Vbndaa.possibleCards
  rw [known_eq hw hq hL hj hs hc]
  simp only [hx, hcb]
  generalize Vbndaa.knownEntries h.room s j = l at hk2
  generalize (Vbndaa.traceFrom qs.reverse b).getD (h.room.table.players.length - 1 - j) 0 = x at hdn
  cases hf : l.find? fun y => y.1 == x with
  | some y =>
    have hy := List.mem_of_find?_eq_some hf
    have hyx : y.1 = x := by
      have := List.find?_some hf
      simpa using this
    have hcon : (l.map (·.1)).contains x = true := List.contains_iff_mem.mpr (List.mem_map.mpr ⟨y, hy, hyx⟩)
    rw [hcon, if_pos rfl]
    simp only
    rw [hk2 y hy, hyx, hdn]
  | none =>
    have hno := List.find?_eq_none.mp hf
    have hcon : (l.map (·.1)).contains x = false := by
      cases e : (l.map (·.1)).contains x with
      | false => rfl
      | true =>
        obtain ⟨y, hy, hyx⟩ := List.mem_map.mp (List.contains_iff_mem.mp e)
        exact absurd (by simpa using hyx) (hno y hy)
    rw [hcon, if_neg (by decide)]
    simp only
    show List.filter _ (List.range _) = List.filter _ (List.range _)
    congr 1
    funext c
    congr 1
    rw [Bool.eq_iff_iff, List.contains_iff_mem, List.any_eq_true]
    constructor
    · intro hm
      obtain ⟨y, hy, e⟩ := List.mem_map.mp hm
      exact ⟨y, hy, by simpa using e⟩
    · rintro ⟨y, hy, e⟩
      exact List.mem_map.mpr ⟨y, hy, by simpa using e⟩

end VD
namespace VD
open PySem PySem.Spec PyProof.Rows L2
section
variable {P : Program} {w : World} {K : PySem.W.Frag} {mg : Str → Option Value} {base : Heap}
theorem in63 {s : Nat} (h : s ≤ 63) : Vbndaa.inRange (s : Int) 0 63 = true := in_range (a := 0) (b := 63) (Nat.zero_le _) h
theorem in5 {s : Nat} (h : s ≤ 5) : Vbndaa.inRange (s : Int) 0 5 = true := in_range (a := 0) (b := 5) (Nat.zero_le _) h
abbrev N_open_entry_count : List Str := ["play", "numbers", "rows", "members"]
theorem sc_open_entry_count : FnScope N_open_entry_count ["play", "numbers", "rows"] (defScope s_open_entry_count) := ⟨rfl, rfl, rfl, by decide +kernel, rfl, by decide +kernel, by decide +kernel⟩
theorem ok_open_entry_count (c : Ctx K mg) : OkF P w K mg base (L2.CX P w) 9 "open_entry_count" ["play", "numbers", "rows"] ((fun vs H Q E => ∃ p t q l g o ac h m bn br s j, vs = [.ref p, .ref bn, .ref br] ∧ PP H p t q l g o ac h m ∧ LI H bn [((s : Nat) : Int), ((j : Nat) : Int)] ∧ s ≤ 63 ∧ j ≤ 5 ∧ DQ Q E H p t q l g o ac h [[13, (s : Int), (j : Int)]])) := by
  refine okF (f_open_entry_count c) (g_open_entry_count c) sc_open_entry_count (fun _ _ _ _ _ _ us hl => match us, hl with | [_, _, _], _ => rfl) (fun vs H Q E h => by obtain ⟨p, t, q, l, g, o, ac, h, m, bn, br, s0, j, rfl, hp, hb, hs63, hj5, hQ⟩ := h; rfl) fun cdv A outer s H vs Q E hr h => ⟨_, (pss_cons (ps_set (i := 3) sc_open_entry_count.nd rfl (Or.inl rfl) (pcall (ok_need_coalition c) (hr.mono (by decide)) (passes_call (takes_of rfl rfl rfl rfl) (fun _ _ _ _ h => h)) (pa_cons (pv 0) (pa_cons (pe_ix (ix_listK (K := K) rfl) (pv 1) pe_int (fun _ _ => rfl)) pa_nil))))
      (pss_cons (ps_expr (pcall (ok_need_player c) (hr.mono (by decide)) (passes_call (takes_of rfl rfl rfl rfl) (fun _ _ _ _ h => h)) (pa_cons (pv 0) (pa_cons (pe_ix (ix_listK (K := K) rfl) (pv 1) pe_int (fun _ _ => rfl)) pa_nil))))
      (pss_cons (ps_expr (pcall (ok_need_all c) (hr.mono (by decide)) (passes_call (takes_of rfl rfl rfl rfl) (fun _ _ _ _ h => h)) (pa_cons (pv 0) pa_nil)))
      (pss_one (ps_ret (pe_lst (pa_cons (pcall (E := E0) (ok_open_count c) (hr.mono (by decide)) passL (pa_cons (pv 0) (pa_cons (pv 3) (pa_cons (pe_ix (ix_listK (K := K) rfl) (pv 1) pe_int (fun _ _ => rfl)) pa_nil)))) pa_nil))))))), ?_⟩
  obtain ⟨p, t, q, l, g, o, ac, h, m, bn, br, s0, j, rfl, hp, hb, hs63, hj5, hQ⟩ := h
  obtain ⟨hn, hpl, hpm⟩ := hp.small
  have st : Vbndaa.stepLists (some h) [[13, (s0 : Int), (j : Int)]] = if (Vbndaa.inRange (s0 : Int) 0 63 && Vbndaa.inRange (j : Int) 0 5) = false then Vbndaa.fail (some h) 1 else if (Vbndaa.coalitionExists h (s0 : Int) && Vbndaa.playerExists h (j : Int)) = false then Vbndaa.fail (some h) 4 else if Vbndaa.allSubmitted h.room = false then Vbndaa.fail (some h) 7 else Vbndaa.succeed (some h) [(Vbndaa.openEntryCount h.room s0 j : Int)] := rfl
  rw [in63 hs63, in5 hj5, coa_ex, ply_ex, if_neg (by decide)] at st
  refine ⟨_, rfl, _, rfl, bn, _, (0 : Nat), _, rfl, rfl, SqL.of hb, atI_nat rfl, p, t, q, l, g, o, ac, h, m, s0, rfl, hp, by omega, fun c1 a H1 s1 ha hl => ?_, fun c1 H1 s1 => ?_⟩
  · have hp1 := hp.same s1
    refine ⟨_, rfl, _, rfl, bn, _, (1 : Nat), _, rfl, rfl, SqL.of (s1 _ _ hb), atI_nat rfl, p, t, q, l, g, o, ac, h, m, j, rfl, hp1, fun c2 => ?_, fun c2 => ?_⟩
    · rw [decide_eq_true c1, decide_eq_true c2, if_neg (by decide)] at st
      refine ⟨_, rfl, p, t, q, l, g, o, ac, h, m, rfl, hp1, fun H2 s2 => ⟨fun hs => ?_, fun hs => ?_⟩⟩
      · rw [hs, if_neg (by decide)] at st
        have hL := laid_of hp.wh hs
        have s12 := s1.trans s2
        have hke := known_eq hp.wh rfl hL c2 (by omega) c1
        have hkl := knP_len (ms := mem6 s0) hp.wh hL c2
        refine ⟨_, rfl, _, rfl, _, rfl, bn, _, (1 : Nat), _, rfl, rfl, SqL.of (s12 _ _ hb), atI_nat rfl, p, t, q, l, g, o, ac, h, _, a, mem6 s0, j, m, rfl, (hp.same s12).pl, hp.wh, hL, s2 _ _ hl, mem6_len s0, c2, fun H3 s3 => ⟨by show 1 ≤ sizeLine; decide, fun f hf => ?_⟩⟩
        refine hQ.still hp st f _ ((s12.trans s3).trans (Same.new hf)) ((s12.trans s3).old hf) ?_
        show upd _ f _ f = _
        rw [upd_same, hke]
        have hle : (Vbndaa.knownEntries h.room s0 j).length ≤ Vbndaa.cardCount h.room.table := by
          rw [← hke]
          unfold knP
          split
          · unfold ownP
            have hqm : (Vbndaa.permutationsOf h.room).getD j [] ∈ Vbndaa.permutationsOf h.room := List.mem_of_getElem? (getD_at (by rw [perms_len]; omega))
            rw [List.length_map, List.length_range, (hL.lt hqm).1]
            exact Nat.le_refl _
          · unfold othP seenL
            rw [List.length_map]
            refine Nat.le_trans (List.length_filter_le _ _) ?_
            rw [List.length_range]
            exact Nat.le_refl _
        have e : ((Vbndaa.cardCount h.room.table : Int) - ((Vbndaa.knownEntries h.room s0 j).length : Int)) = ((Vbndaa.openEntryCount h.room s0 j : Nat) : Int) := by
          unfold Vbndaa.openEntryCount
          omega
        rw [e]
        rfl
      · rw [hs, if_pos rfl] at st
        exact hQ.1 7 st H2 (s1.trans s2)
    · rw [decide_eq_true c1, decide_eq_false c2, Bool.and_false, if_pos rfl] at st
      exact hQ.1 4 st H1 s1
  · rw [decide_eq_false c1, Bool.false_and, if_pos rfl] at st
    exact hQ.1 4 st H1 s1
abbrev N_tell_possible_cards : List Str := ["play", "numbers", "rows", "members"]
theorem sc_tell_possible_cards : FnScope N_tell_possible_cards ["play", "numbers", "rows"] (defScope s_tell_possible_cards) := ⟨rfl, rfl, rfl, by decide +kernel, rfl, by decide +kernel, by decide +kernel⟩
theorem ok_tell_possible_cards (c : Ctx K mg) : OkF P w K mg base (L2.CX P w) 9 "tell_possible_cards" ["play", "numbers", "rows"] ((fun vs H Q E => ∃ p t q l g o ac h m bn br s j b, vs = [.ref p, .ref bn, .ref br] ∧ PP H p t q l g o ac h m ∧ LI H bn [((s : Nat) : Int), ((j : Nat) : Int), ((b : Nat) : Int)] ∧ s ≤ 63 ∧ j ≤ 5 ∧ b ≤ 51 ∧ DQ Q E H p t q l g o ac h [[14, (s : Int), (j : Int), (b : Int)]])) := by
  refine okF (f_tell_possible_cards c) (g_tell_possible_cards c) sc_tell_possible_cards (fun _ _ _ _ _ _ us hl => match us, hl with | [_, _, _], _ => rfl) (fun vs H Q E h => by obtain ⟨p, t, q, l, g, o, ac, h, m, bn, br, s0, j, b, rfl, hp, hb, hs63, hj5, hb51, hQ⟩ := h; rfl) fun cdv A outer s H vs Q E hr h => ⟨_, (pss_cons (ps_set (i := 3) sc_tell_possible_cards.nd rfl (Or.inl rfl) (pcall (ok_need_coalition c) (hr.mono (by decide)) (passes_call (takes_of rfl rfl rfl rfl) (fun _ _ _ _ h => h)) (pa_cons (pv 0) (pa_cons (pe_ix (ix_listK (K := K) rfl) (pv 1) pe_int (fun _ _ => rfl)) pa_nil))))
      (pss_cons (ps_expr (pcall (ok_need_player c) (hr.mono (by decide)) (passes_call (takes_of rfl rfl rfl rfl) (fun _ _ _ _ h => h)) (pa_cons (pv 0) (pa_cons (pe_ix (ix_listK (K := K) rfl) (pv 1) pe_int (fun _ _ => rfl)) pa_nil))))
      (pss_cons (ps_expr (pcall (ok_need_card c) (hr.mono (by decide)) (passes_call (takes_of rfl rfl rfl rfl) (fun _ _ _ _ h => h)) (pa_cons (pv 0) (pa_cons (pe_ix (ix_listK (K := K) rfl) (pv 1) pe_int (fun _ _ => rfl)) pa_nil))))
      (pss_cons (ps_expr (pcall (ok_need_all c) (hr.mono (by decide)) (passes_call (takes_of rfl rfl rfl rfl) (fun _ _ _ _ h => h)) (pa_cons (pv 0) pa_nil)))
      (pss_one (ps_ret (pcall (E := E0) (ok_counted c) (hr.mono (by decide)) passL (pa_cons (pcall (E := E0) (ok_possible_cards c) (hr.mono (by decide)) passL (pa_cons (pv 0) (pa_cons (pv 3) (pa_cons (pe_ix (ix_listK (K := K) rfl) (pv 1) pe_int (fun _ _ => rfl)) (pa_cons (pe_ix (ix_listK (K := K) rfl) (pv 1) pe_int (fun _ _ => rfl)) pa_nil))))) pa_nil)))))))), ?_⟩
  obtain ⟨p, t, q, l, g, o, ac, h, m, bn, br, s0, j, b, rfl, hp, hb, hs63, hj5, hb51, hQ⟩ := h
  obtain ⟨hn, hpl, hpm⟩ := hp.small
  have st : Vbndaa.stepLists (some h) [[14, (s0 : Int), (j : Int), (b : Int)]] = if (Vbndaa.inRange (s0 : Int) 0 63 && (Vbndaa.inRange (j : Int) 0 5 && Vbndaa.isPositionArgument (b : Int))) = false then Vbndaa.fail (some h) 1 else if (Vbndaa.coalitionExists h (s0 : Int) && (Vbndaa.playerExists h (j : Int) && Vbndaa.positionExists h (b : Int))) = false then Vbndaa.fail (some h) 4 else if Vbndaa.allSubmitted h.room = false then Vbndaa.fail (some h) 7 else Vbndaa.succeed (some h) (Vbndaa.withLength (Vbndaa.possibleCards h.room s0 j b)) := rfl
  rw [in63 hs63, in5 hj5, pos_arg hb51, coa_ex, ply_ex, pos_ex, if_neg (by decide)] at st
  refine ⟨_, rfl, _, rfl, bn, _, (0 : Nat), _, rfl, rfl, SqL.of hb, atI_nat rfl, p, t, q, l, g, o, ac, h, m, s0, rfl, hp, by omega, fun c1 a H1 s1 ha hl => ?_, fun c1 H1 s1 => ?_⟩
  · have hp1 := hp.same s1
    refine ⟨_, rfl, _, rfl, bn, _, (1 : Nat), _, rfl, rfl, SqL.of (s1 _ _ hb), atI_nat rfl, p, t, q, l, g, o, ac, h, m, j, rfl, hp1, fun c2 => ?_, fun c2 => ?_⟩
    · refine ⟨_, rfl, _, rfl, bn, _, (2 : Nat), _, rfl, rfl, SqL.of (s1 _ _ hb), atI_nat rfl, p, t, q, l, g, o, ac, h, m, b, rfl, hp1, fun c3 => ?_, fun c3 => ?_⟩
      · rw [decide_eq_true c1, decide_eq_true c2, decide_eq_true c3, if_neg (by decide)] at st
        refine ⟨_, rfl, p, t, q, l, g, o, ac, h, m, rfl, hp1, fun H2 s2 => ⟨fun hs => ?_, fun hs => ?_⟩⟩
        · rw [hs, if_neg (by decide)] at st
          have hL := laid_of hp.wh hs
          have s12 := s1.trans s2
          have hpe := possible_eq hp.wh rfl hL c2 c3 (by omega) c1
          rw [← hpe] at st
          have hpz : (posP h.room (Vbndaa.permutationsOf h.room) (mem6 s0) j b).length ≤ 52 := by
            unfold posP
            split
            · show 1 ≤ 52
              decide
            · refine Nat.le_trans (List.length_filter_le _ _) ?_
              rw [List.length_range]
              exact hn
          refine ⟨_, rfl, _, rfl, _, rfl, bn, _, (1 : Nat), _, rfl, rfl, SqL.of (s12 _ _ hb), atI_nat rfl, _, rfl, bn, _, (2 : Nat), _, rfl, rfl, SqL.of (s12 _ _ hb), atI_nat rfl, p, t, q, l, g, o, ac, h, _, a, mem6 s0, j, b, m, rfl, (hp.same s12).pl, hp.wh, hL, s2 _ _ hl, mem6_len s0, c2, c3, fun y H3 s3 hy hly => ⟨y, _, rfl, hly, by omega, fun f H4 s4 hf hf4 => ?_⟩⟩
          exact hQ.still hp st f H4 ((s12.trans s3).trans s4) ((s12.trans s3).old hf) hf4
        · rw [hs, if_pos rfl] at st
          exact hQ.1 7 st H2 (s1.trans s2)
      · rw [decide_eq_true c1, decide_eq_true c2, decide_eq_false c3, Bool.and_false, Bool.and_false, if_pos rfl] at st
        exact hQ.1 4 st H1 s1
    · rw [decide_eq_true c1, decide_eq_false c2, Bool.false_and, Bool.and_false, if_pos rfl] at st
      exact hQ.1 4 st H1 s1
  · rw [decide_eq_false c1, Bool.false_and, if_pos rfl] at st
    exact hQ.1 4 st H1 s1
end

end VD
namespace VD
open PySem PySem.Spec PyProof.Rows L2
theorem map_at' {α β : Type} {f : α → β} {l : List α} {i : Nat} {y : β} (h : (l.map f)[i]? = some y) : ∃ n, l[i]? = some n ∧ y = f n := by
  rw [List.getElem?_map] at h
  cases e : l[i]? with
  | none =>
    rw [e] at h
    cases h
  | some n =>
    rw [e] at h
    exact ⟨n, rfl, (Option.some.inj h).symm⟩
section
variable {P : Program} {w : World} {K : PySem.W.Frag} {mg : Str → Option Value} {base : Heap}
abbrev N_card_probability : List Str := ["play", "numbers", "rows", "members"]
theorem sc_card_probability : FnScope N_card_probability ["play", "numbers", "rows"] (defScope s_card_probability) := ⟨rfl, rfl, rfl, by decide +kernel, rfl, by decide +kernel, by decide +kernel⟩
theorem ok_card_probability (c : Ctx K mg) : OkF P w K mg base (L2.CX P w) 10 "card_probability" ["play", "numbers", "rows"] ((fun vs H Q E => ∃ p t q l g o ac h m bn br s j b cd, vs = [.ref p, .ref bn, .ref br] ∧ PP H p t q l g o ac h m ∧ LI H bn [((s : Nat) : Int), ((j : Nat) : Int), ((b : Nat) : Int), ((cd : Nat) : Int)] ∧ s ≤ 63 ∧ j ≤ 5 ∧ b ≤ 51 ∧ cd ≤ 51 ∧ DQ Q E H p t q l g o ac h [[15, (s : Int), (j : Int), (b : Int), (cd : Int)]])) := by
  refine okF (f_card_probability c) (g_card_probability c) sc_card_probability (fun _ _ _ _ _ _ us hl => match us, hl with | [_, _, _], _ => rfl) (fun vs H Q E h => by obtain ⟨p, t, q, l, g, o, ac, h, m, bn, br, s0, j, b, cd, rfl, hp, hb, hs63, hj5, hb51, hc51, hQ⟩ := h; rfl) fun cdv A outer s H vs Q E hr h => ⟨_, (pss_cons (ps_set (i := 3) sc_card_probability.nd rfl (Or.inl rfl) (pcall (ok_need_coalition c) (hr.mono (by decide)) (passes_call (takes_of rfl rfl rfl rfl) (fun _ _ _ _ h => h)) (pa_cons (pv 0) (pa_cons (pe_ix (ix_listK (K := K) rfl) (pv 1) pe_int (fun _ _ => rfl)) pa_nil))))
      (pss_cons (ps_expr (pcall (ok_need_player c) (hr.mono (by decide)) (passes_call (takes_of rfl rfl rfl rfl) (fun _ _ _ _ h => h)) (pa_cons (pv 0) (pa_cons (pe_ix (ix_listK (K := K) rfl) (pv 1) pe_int (fun _ _ => rfl)) pa_nil))))
      (pss_cons (ps_expr (pcall (ok_need_card c) (hr.mono (by decide)) (passes_call (takes_of rfl rfl rfl rfl) (fun _ _ _ _ h => h)) (pa_cons (pv 0) (pa_cons (pe_ix (ix_listK (K := K) rfl) (pv 1) pe_int (fun _ _ => rfl)) pa_nil))))
      (pss_cons (ps_expr (pcall (ok_need_card c) (hr.mono (by decide)) (passes_call (takes_of rfl rfl rfl rfl) (fun _ _ _ _ h => h)) (pa_cons (pv 0) (pa_cons (pe_ix (ix_listK (K := K) rfl) (pv 1) pe_int (fun _ _ => rfl)) pa_nil))))
      (pss_cons (ps_expr (pcall (ok_need_all c) (hr.mono (by decide)) (passes_call (takes_of rfl rfl rfl rfl) (fun _ _ _ _ h => h)) (pa_cons (pv 0) pa_nil)))
      (pss_one (ps_ret (pe_callTy (listK (K := K) rfl) (by rfl) (b_list c) boot_list (pa_cons (pcall (E := E0) (ok_probability_of c) (hr.mono (by decide)) passL (pa_cons (pv 0) (pa_cons (pv 3) (pa_cons (pe_ix (ix_listK (K := K) rfl) (pv 1) pe_int (fun _ _ => rfl)) (pa_cons (pe_ix (ix_listK (K := K) rfl) (pv 1) pe_int (fun _ _ => rfl)) (pa_cons (pe_ix (ix_listK (K := K) rfl) (pv 1) pe_int (fun _ _ => rfl)) pa_nil)))))) pa_nil))))))))), ?_⟩
  obtain ⟨p, t, q, l, g, o, ac, h, m, bn, br, s0, j, b, cd, rfl, hp, hb, hs63, hj5, hb51, hc51, hQ⟩ := h
  obtain ⟨hn, hpl, hpm⟩ := hp.small
  have st : Vbndaa.stepLists (some h) [[15, (s0 : Int), (j : Int), (b : Int), (cd : Int)]] = if (Vbndaa.inRange (s0 : Int) 0 63 && (Vbndaa.inRange (j : Int) 0 5 && (Vbndaa.isPositionArgument (b : Int) && Vbndaa.isPositionArgument (cd : Int)))) = false then Vbndaa.fail (some h) 1 else if (Vbndaa.coalitionExists h (s0 : Int) && (Vbndaa.playerExists h (j : Int) && (Vbndaa.positionExists h (b : Int) && Vbndaa.positionExists h (cd : Int)))) = false then Vbndaa.fail (some h) 4 else if Vbndaa.allSubmitted h.room = false then Vbndaa.fail (some h) 7 else Vbndaa.succeed (some h) (Vbndaa.toInts [(Vbndaa.cardProbability h.room s0 j b cd).1, (Vbndaa.cardProbability h.room s0 j b cd).2]) := rfl
  rw [in63 hs63, in5 hj5, pos_arg hb51, pos_arg hc51, coa_ex, ply_ex, pos_ex, pos_ex, if_neg (by decide)] at st
  refine ⟨_, rfl, _, rfl, bn, _, (0 : Nat), _, rfl, rfl, SqL.of hb, atI_nat rfl, p, t, q, l, g, o, ac, h, m, s0, rfl, hp, by omega, fun c1 a H1 s1 ha hl => ?_, fun c1 H1 s1 => ?_⟩
  · have hp1 := hp.same s1
    have hb1 := s1 _ _ hb
    refine ⟨_, rfl, _, rfl, bn, _, (1 : Nat), _, rfl, rfl, SqL.of hb1, atI_nat rfl, p, t, q, l, g, o, ac, h, m, j, rfl, hp1, fun c2 => ?_, fun c2 => ?_⟩
    · refine ⟨_, rfl, _, rfl, bn, _, (2 : Nat), _, rfl, rfl, SqL.of hb1, atI_nat rfl, p, t, q, l, g, o, ac, h, m, b, rfl, hp1, fun c3 => ?_, fun c3 => ?_⟩
      · refine ⟨_, rfl, _, rfl, bn, _, (3 : Nat), _, rfl, rfl, SqL.of hb1, atI_nat rfl, p, t, q, l, g, o, ac, h, m, cd, rfl, hp1, fun c4 => ?_, fun c4 => ?_⟩
        · rw [decide_eq_true c1, decide_eq_true c2, decide_eq_true c3, decide_eq_true c4, if_neg (by decide)] at st
          refine ⟨_, rfl, p, t, q, l, g, o, ac, h, m, rfl, hp1, fun H2 s2 => ⟨fun hs => ?_, fun hs => ?_⟩⟩
          · rw [hs, if_neg (by decide)] at st
            have hL := laid_of hp.wh hs
            have s12 := s1.trans s2
            have hb2 := s12 _ _ hb
            have hpe := possible_eq hp.wh rfl hL c2 c3 (by omega) c1
            unfold Vbndaa.cardProbability at st
            rw [← hpe] at st
            refine ⟨_, rfl, _, rfl, _, rfl, bn, _, (1 : Nat), _, rfl, rfl, SqL.of hb2, atI_nat rfl, _, rfl, bn, _, (2 : Nat), _, rfl, rfl, SqL.of hb2, atI_nat rfl, _, rfl, bn, _, (3 : Nat), _, rfl, rfl, SqL.of hb2, atI_nat rfl, p, t, q, l, g, o, ac, h, _, a, mem6 s0, j, b, cd, m, rfl, (hp.same s12).pl, hp.wh, hL, s2 _ _ hl, mem6_len s0, c2, c3, fun T H3 s3 hT => ⟨T, _, rfl, .inr (SqT.of hT), fun f hf => ?_⟩⟩
            generalize posP h.room (Vbndaa.permutationsOf h.room) (mem6 s0) j b = ps at st hT hf ⊢
            dsimp only at st
            have s13 := s12.trans s3
            cases hc : ps.contains cd with
            | true =>
              rw [hc] at st
              refine hQ.still hp st f _ (s13.trans (Same.new hf)) (s13.old hf) ?_
              show upd _ f _ f = _
              rw [upd_same]
              rfl
            | false =>
              rw [hc] at st
              refine hQ.still hp st f _ (s13.trans (Same.new hf)) (s13.old hf) ?_
              show upd _ f _ f = _
              rw [upd_same]
              rfl
          · rw [hs, if_pos rfl] at st
            exact hQ.1 7 st H2 (s1.trans s2)
        · rw [decide_eq_true c1, decide_eq_true c2, decide_eq_true c3, decide_eq_false c4, Bool.and_false, Bool.and_false, Bool.and_false, if_pos rfl] at st
          exact hQ.1 4 st H1 s1
      · rw [decide_eq_true c1, decide_eq_true c2, decide_eq_false c3, Bool.false_and, Bool.and_false, Bool.and_false, if_pos rfl] at st
        exact hQ.1 4 st H1 s1
    · rw [decide_eq_true c1, decide_eq_false c2, Bool.false_and, Bool.and_false, if_pos rfl] at st
      exact hQ.1 4 st H1 s1
  · rw [decide_eq_false c1, Bool.false_and, if_pos rfl] at st
    exact hQ.1 4 st H1 s1
abbrev N_summary : List Str := ["play", "numbers", "rows", "laid", "claimed", "table", "row", "owner"]
theorem sc_summary : FnScope N_summary ["play", "numbers", "rows"] (defScope s_summary) := ⟨rfl, rfl, rfl, by decide +kernel, rfl, by decide +kernel, by decide +kernel⟩
theorem ok_summary (c : Ctx K mg) : OkF P w K mg base (L2.CX P w) 5 "summary" ["play", "numbers", "rows"] ((fun vs H Q E => ∃ p t q l g o ac h m bn br, vs = [.ref p, .ref bn, .ref br] ∧ PP H p t q l g o ac h m ∧ DQ Q E H p t q l g o ac h [[23]])) := by
  refine okF (f_summary c) (g_summary c) sc_summary (fun _ _ _ _ _ _ us hl => match us, hl with | [_, _, _], _ => rfl) (fun vs H Q E h => by obtain ⟨p, t, q, l, g, o, ac, h, m, bn, br, rfl, hp, hQ⟩ := h; rfl) fun cdv A outer s H vs Q E hr h => ⟨_, (pss_cons (ps_setLc (i := 3) (g := gName 6) (own := [("row", 6)]) rfl sc_summary.nd rfl rfl (sw_true rfl rfl rfl (by decide +kernel)) (pi_list (pe_fldK (K := K) rfl (pv 0))) (blkOk_by (own := [("row", 6)]) (N := N_summary) (sc := defScope s_summary) (by decide +kernel)) (fun _ _ _ _ _ => (pg_name (i := 6) sc_summary.nd rfl (Or.inl rfl) (hf := Or.inr (by rfl)))) (fun _ _ _ _ _ => pts_one (pt_cmpR op_notN (pv 6) pe_non (nomark _))) (fun _ _ _ _ _ => (pv 6)))
      (pss_cons (ps_setLc (i := 4) (g := gName 7) (own := [("owner", 7)]) rfl sc_summary.nd rfl rfl (sw_true rfl rfl rfl (by decide +kernel)) (pi_list (pe_fldK (K := K) rfl (pv 0))) (blkOk_by (own := [("owner", 7)]) (N := N_summary) (sc := defScope s_summary) (by decide +kernel)) (fun _ _ _ _ _ => (pg_name (i := 7) sc_summary.nd rfl (Or.inl rfl) (hf := Or.inr (by rfl)))) (fun _ _ _ _ _ => pts_one (pt_cmpR op_gt (pv 7) pe_int (nomark _))) (fun _ _ _ _ _ => (pv 7)))
      (pss_cons (ps_set (i := 5) sc_summary.nd rfl (Or.inl rfl) (pe_fldK (K := K) rfl (pv 0)))
      (pss_one (ps_ret (pe_lst (pa_cons (pmeth0 (E := E0) (ok_Table_card_count c) (pv 5) (hr.mono (by decide)) passL) (pa_cons (pmeth0 (E := E0) (ok_Table_player_count c) (pv 5) (hr.mono (by decide)) passL) (pa_cons (pe_callB (lenK (K := K) rfl) (by rfl) (b_len c) boot_len (pa_cons (pv 3) pa_nil)) (pa_cons (pe_callB (lenK (K := K) rfl) (by rfl) (b_len c) boot_len (pa_cons (pe_fldK (K := K) rfl (pv 0)) pa_nil)) (pa_cons (pe_callB (lenK (K := K) rfl) (by rfl) (b_len c) boot_len (pa_cons (pv 4) pa_nil)) pa_nil))))))))))), ?_⟩
  obtain ⟨p, t, q, l, g, o, ac, h, m, bn, br, rfl, hp, hQ⟩ := h
  obtain ⟨dx, dxt, h1, h2⟩ := players_at hp.pl
  obtain ⟨hn, hpl, hpm⟩ := hp.small
  obtain ⟨us, l1, l2⟩ := hp.pl.lay
  obtain ⟨gs, g1, g2⟩ := hp.pl.grs
  have how := hp.pl.own
  have st : Vbndaa.stepLists (some h) [[23]] = Vbndaa.succeed (some h) (Vbndaa.toInts [Vbndaa.cardCount h.room.table, h.room.table.players.length, (h.room.permutations.filter fun o => o.isSome).length, h.room.grants.length, (h.room.owners.filter fun o => o.isSome).length]) := rfl
  refine ⟨_, rfl, p, _, _, _, _, rfl, h1, cl_Play c, na_Play_layers c, rfl, l, rfl, ⟨_, SqL.of l1⟩, fun D hD => ?_⟩
  refine lcR walk_list (fun _ v (e : Option (List Nat)) => True) (fun i => (h.room.permutations.take i).filter fun o => o.isSome) (fun _ _ _ _ _ h => h) hD rfl (fun H' s' => SqL.of (s' _ _ l1)) (fun i x H2 H3 hi y z => ?_) (fun H1 vs s1 hd y => ?_)
  · obtain ⟨rfl, hx⟩ := z
    obtain ⟨e, he, hr⟩ := pr_get l2 hx
    refine ⟨rfl, _, rfl, rfl, _, rfl, ?_⟩
    cases e with
    | none =>
      have hr : x = .non := hr
      subst hr
      exact iteF (y.no (fun _ _ _ _ _ h => h) (Same.refl _) (filter_no he rfl))
    | some wd =>
      obtain ⟨a, rfl, _⟩ := hr
      refine iteT ⟨_, rfl, y.yes (fun _ _ _ _ _ h => h) (Same.refl _) (e := some wd) (filter_yes he rfl) trivial (filter_len (m := 1000) (by omega) (by decide))⟩
  · have hl1 := y.length
    rw [l2.length, List.take_of_length_le (Nat.le_refl _)] at hl1
    refine ⟨_, rfl, p, _, _, _, _, rfl, s1 _ _ h1, cl_Play c, na_Play_owners c, rfl, o, rfl, ⟨_, SqL.of (s1 _ _ how)⟩, fun D2 hD2 => ?_⟩
    refine lcR walk_list (fun _ v (e : Option Nat) => True) (fun i => (h.room.owners.take i).filter fun o => o.isSome) (fun _ _ _ _ _ h => h) hD2 rfl (fun H' s' => SqL.of (s' _ _ (s1 _ _ how))) (fun i x H2 H3 hi y z => ?_) (fun H2 vs2 s2 hd2 y2 => ?_)
    · obtain ⟨rfl, hx⟩ := z
      obtain ⟨iz, hiz, rfl⟩ := map_at hx
      obtain ⟨e, he, rfl⟩ := map_at' hiz
      refine ⟨rfl, _, rfl, _, _, rfl, rfl, _, rfl, ?_⟩
      cases e with
      | none => exact iteF (y.no (fun _ _ _ _ _ h => h) (Same.refl _) (filter_no he rfl))
      | some pl =>
        refine ite2 (fun _ => ⟨_, rfl, y.yes (fun _ _ _ _ _ h => h) (Same.refl _) (e := some pl) (filter_yes he rfl) trivial (filter_len (m := 1000) (by rw [hp.wh.owns]; omega) (by decide))⟩) (fun e => absurd (decide_eq_true (show (0 : Int) < ow (some pl) by show (0 : Int) < (pl : Int) + 1; omega)) e)
    · have hl2 := y2.length
      rw [List.length_map, List.length_map, List.take_of_length_le (Nat.le_refl _)] at hl2
      have s12 := s1.trans s2
      have hp2 := hp.same s12
      have ht2 := s12 _ _ h2
      refine ⟨_, rfl, p, _, _, _, _, rfl, s12 _ _ h1, cl_Play c, na_Play_table c, rfl, ?_⟩
      refine ⟨_, rfl, t, _, _, rfl, ht2, rfl, t, q, _, rfl, hp2.pl.tb, ?_⟩
      refine ⟨_, rfl, t, _, _, rfl, ht2, rfl, t, q, _, rfl, hp2.pl.tb, ?_⟩
      refine ⟨_, rfl, D, _, rfl, .inl (SqL.of (s2 _ _ hd)), ?_⟩
      refine ⟨_, rfl, p, _, _, _, _, rfl, s12 _ _ h1, cl_Play c, na_Play_grants c, rfl, g, _, rfl, .inl (SqL.of (s12 _ _ g1)), ?_⟩
      refine ⟨_, rfl, D2, _, rfl, .inl (SqL.of hd2), by show 5 ≤ sizeLine; decide, fun f hf => ?_⟩
      refine hQ.still hp st f _ (s12.trans (Same.new hf)) (s12.old hf) ?_
      show upd _ f _ f = _
      rw [upd_same, hl1, hl2, g2.length]
      rfl
end

end VD
namespace VD
open PySem PySem.Spec PyProof.Rows L2
section
variable {P : Program} {w : World} {K : PySem.W.Frag} {mg : Str → Option Value} {base : Heap}
theorem flat2_len (l : List (Nat × Nat)) : (l.flatMap fun x => Vbndaa.toInts [x.1, x.2]).length = 2 * l.length := by
  induction l with
  | nil => rfl
  | cons x r ih =>
    rw [List.flatMap_cons, List.length_append, ih, List.length_cons]
    show 2 + _ = _
    omega
abbrev N_tell_known_entries : List Str := ["play", "numbers", "rows", "members", "pairs", "found", "position", "entry"]
theorem sc_tell_known_entries : FnScope N_tell_known_entries ["play", "numbers", "rows"] (defScope s_tell_known_entries) := ⟨rfl, rfl, rfl, by decide +kernel, rfl, by decide +kernel, by decide +kernel⟩
theorem ok_tell_known_entries (c : Ctx K mg) : OkF P w K mg base (L2.CX P w) 8 "tell_known_entries" ["play", "numbers", "rows"] ((fun vs H Q E => ∃ p t q l g o ac h m bn br s j, vs = [.ref p, .ref bn, .ref br] ∧ PP H p t q l g o ac h m ∧ LI H bn [((s : Nat) : Int), ((j : Nat) : Int)] ∧ s ≤ 63 ∧ j ≤ 5 ∧ DQ Q E H p t q l g o ac h [[12, (s : Int), (j : Int)]])) := by
  refine okF (f_tell_known_entries c) (g_tell_known_entries c) sc_tell_known_entries (fun _ _ _ _ _ _ us hl => match us, hl with | [_, _, _], _ => rfl) (fun vs H Q E h => by obtain ⟨p, t, q, l, g, o, ac, h, m, bn, br, s0, j, rfl, hp, hb, hs63, hj5, hQ⟩ := h; rfl) fun cdv A outer s H vs Q E hr h => ⟨_, (pss_cons (ps_set (i := 3) sc_tell_known_entries.nd rfl (Or.inl rfl) (pcall (ok_need_coalition c) (hr.mono (by decide)) (passes_call (takes_of rfl rfl rfl rfl) (fun _ _ _ _ h => h)) (pa_cons (pv 0) (pa_cons (pe_ix (ix_listK (K := K) rfl) (pv 1) pe_int (fun _ _ => rfl)) pa_nil))))
      (pss_cons (ps_expr (pcall (ok_need_player c) (hr.mono (by decide)) (passes_call (takes_of rfl rfl rfl rfl) (fun _ _ _ _ h => h)) (pa_cons (pv 0) (pa_cons (pe_ix (ix_listK (K := K) rfl) (pv 1) pe_int (fun _ _ => rfl)) pa_nil))))
      (pss_cons (ps_expr (pcall (ok_need_all c) (hr.mono (by decide)) (passes_call (takes_of rfl rfl rfl rfl) (fun _ _ _ _ h => h)) (pa_cons (pv 0) pa_nil)))
      (pss_cons (ps_set (i := 4) sc_tell_known_entries.nd rfl (Or.inl rfl) (pcall (E := E0) (ok_known_entries c) (hr.mono (by decide)) passL (pa_cons (pv 0) (pa_cons (pv 3) (pa_cons (pe_ix (ix_listK (K := K) rfl) (pv 1) pe_int (fun _ _ => rfl)) pa_nil)))))
      (pss_cons (ps_set (i := 5) sc_tell_known_entries.nd rfl (Or.inl rfl) (pe_lst (pa_cons (pe_callB (lenK (K := K) rfl) (by rfl) (b_len c) boot_len (pa_cons (pv 4) pa_nil)) pa_nil)))
      (pss_cons (ps_for PassesOwn.leaving rfl (pi_list (pv 4)) (pg_tup rfl (pgs_cons (pg_name (i := 6) sc_tell_known_entries.nd rfl (Or.inl rfl)) (pgs_cons (pg_name (i := 7) sc_tell_known_entries.nd rfl (Or.inl rfl)) pgs_nil))) (pss_one (ps_expr (pe_bm PySem.F.plainAttrs_list PySem.F.slot_list_extend PySem.F.type_list_extend mt_extend (pv 5) (pa_cons (pe_lst (pa_cons (pv 6) (pa_cons (pv 7) pa_nil))) pa_nil)))))
      (pss_one (ps_ret (pv 5))))))))), ?_⟩
  obtain ⟨p, t, q, l, g, o, ac, h, m, bn, br, s0, j, rfl, hp, hb, hs63, hj5, hQ⟩ := h
  obtain ⟨hn, hpl, hpm⟩ := hp.small
  have st : Vbndaa.stepLists (some h) [[12, (s0 : Int), (j : Int)]] = if (Vbndaa.inRange (s0 : Int) 0 63 && Vbndaa.inRange (j : Int) 0 5) = false then Vbndaa.fail (some h) 1 else if (Vbndaa.coalitionExists h (s0 : Int) && Vbndaa.playerExists h (j : Int)) = false then Vbndaa.fail (some h) 4 else if Vbndaa.allSubmitted h.room = false then Vbndaa.fail (some h) 7 else
      Vbndaa.succeed (some h) (((Vbndaa.knownEntries h.room s0 j).length : Int) :: (Vbndaa.knownEntries h.room s0 j).flatMap fun x => Vbndaa.toInts [x.1, x.2]) := rfl
  rw [in63 hs63, in5 hj5, coa_ex, ply_ex, if_neg (by decide)] at st
  refine ⟨_, rfl, _, rfl, bn, _, (0 : Nat), _, rfl, rfl, SqL.of hb, atI_nat rfl, p, t, q, l, g, o, ac, h, m, s0, rfl, hp, by omega, fun c1 a H1 s1 ha hl => ?_, fun c1 H1 s1 => ?_⟩
  · have hp1 := hp.same s1
    refine ⟨_, rfl, _, rfl, bn, _, (1 : Nat), _, rfl, rfl, SqL.of (s1 _ _ hb), atI_nat rfl, p, t, q, l, g, o, ac, h, m, j, rfl, hp1, fun c2 => ?_, fun c2 => ?_⟩
    · rw [decide_eq_true c1, decide_eq_true c2, if_neg (by decide)] at st
      refine ⟨_, rfl, p, t, q, l, g, o, ac, h, m, rfl, hp1, fun H2 s2 => ⟨fun hs => ?_, fun hs => ?_⟩⟩
      · rw [hs, if_neg (by decide)] at st
        have hL := laid_of hp.wh hs
        have s12 := s1.trans s2
        have hke := known_eq hp.wh rfl hL c2 (by omega) c1
        have hkl := knP_len (ms := mem6 s0) hp.wh hL c2
        refine ⟨_, rfl, _, rfl, _, rfl, bn, _, (1 : Nat), _, rfl, rfl, SqL.of (s12 _ _ hb), atI_nat rfl, p, t, q, l, g, o, ac, h, _, a, mem6 s0, j, m, rfl, (hp.same s12).pl, hp.wh, hL, s2 _ _ hl, mem6_len s0, c2, fun kn H3 ks s3 hkn hks hkp => ?_⟩
        rw [hke] at hkp hkl
        generalize Vbndaa.knownEntries h.room s0 j = kp at hkp hkl st
        have s13 := s12.trans s3
        refine ⟨_, rfl, kn, _, rfl, .inl (SqL.of hks), by show 1 ≤ sizeLine; decide, fun f hf => ?_⟩
        have s4 := Same.new (o := .lst [.int (ks.length : Nat)]) hf
        have hfH := s13.old hf
        refine ⟨_, rfl, kn, rfl, ⟨_, SqL.of (s4 _ _ hks)⟩, for_list (K := K) (a := kn) (xs := ks) (fun i σ H' => ∃ x y, σ = [some (.ref p), some (.ref bn), some (.ref br), some (.ref a), some (.ref kn), some (.ref f), x, y] ∧ Same H3 H' ∧ LI H' f ((kp.length : Int) :: (kp.take i).flatMap fun x => Vbndaa.toInts [x.1, x.2])) ⟨none, none, rfl, s4, by show upd _ f _ f = _; rw [upd_same, hkp.length]; rfl⟩ (fun i σ H' _ ⟨_, _, _, s, _⟩ => SqL.of (s _ _ hks)) ?_ ?_⟩
        · rintro i v σ H4 hv ⟨x0, y0, rfl, s5, hlf⟩
          obtain ⟨pr, hpr, T, rfl, hT⟩ := pr_get hkp hv
          have hT4 := s5 _ _ hT
          refine ⟨T, _, rfl, SqT.of hT4, rfl, _, _, rfl, _, _, rfl, rfl, ?_⟩
          refine ⟨_, rfl, .inl ⟨rfl, _, SqL.of hlf⟩, _, rfl, _, rfl, by show 2 ≤ sizeLine; decide, fun q1 hq1 => ?_⟩
          have s6 := Same.new (o := .lst [nv pr.1, nv pr.2]) hq1
          have hlen : ((kp.length : Int) :: (kp.take i).flatMap fun x => Vbndaa.toInts [x.1, x.2]).length ≤ 200 := by
            rw [List.length_cons, flat2_len, List.length_take]
            omega
          refine ⟨f, q1, _, _, rfl, rfl, s6 _ _ hlf, upd_same, by rw [sizeLine_eq, List.length_map]; show _ + 2 ≤ _; omega, some (nv pr.1), some (nv pr.2), rfl, (s5.trans s6).put hf, ?_⟩
          show upd _ f _ f = _
          rw [upd_same, take_succ hpr, List.flatMap_append, List.flatMap_cons, List.flatMap_nil, List.append_nil, ← List.cons_append, List.map_append]
          rfl
        · rintro σ H4 ⟨x0, y0, rfl, s5, hlf⟩
          rw [hkp.length, List.take_of_length_le (Nat.le_refl _)] at hlf
          exact ⟨_, rfl, hQ.still hp st f H4 (s13.trans s5) hfH hlf⟩
      · rw [hs, if_pos rfl] at st
        exact hQ.1 7 st H2 (s1.trans s2)
    · rw [decide_eq_true c1, decide_eq_false c2, Bool.and_false, if_pos rfl] at st
      exact hQ.1 4 st H1 s1
  · rw [decide_eq_false c1, Bool.false_and, if_pos rfl] at st
    exact hQ.1 4 st H1 s1
end

end VD
namespace VD
open PySem PySem.Spec PyProof.Rows L2
section
variable {P : Program} {w : World} {K : PySem.W.Frag} {mg : Str → Option Value} {base : Heap}
abbrev N_Call_init : List Str := ["self", "operation", "numbers", "rows"]
theorem sc_Call_init : FnScope N_Call_init ["self", "operation", "numbers", "rows"] (defScope s_Call_init) := ⟨rfl, rfl, rfl, by decide +kernel, rfl, by decide +kernel, by decide +kernel⟩
theorem ok_Call_init (c : Ctx K mg) : OkC P w K mg base (L2.CX P w) 1 "Call" c_Call ["self", "operation", "numbers", "rows"] ((fun vs H Q _ => ∃ a dx op b r, vs = [.ref a, .int op, .ref b, .ref r] ∧ H a = some (.ins c_Call dx []) ∧ ∀ H', But [a] H H' → H' a = some (callO dx b r op) → Q .non H')) := by
  refine okC (f_Call_init c) (mk_Call c) (g_Call c) sc_Call_init (fun _ _ _ _ _ _ us hl => match us, hl with | [_, _, _, _], _ => rfl) (fun vs H Q E h => by obtain ⟨a, dx, op, b, r, rfl, ha, k⟩ := h; rfl) fun cdv A outer s H vs Q E hr h => ⟨_, (pss_cons (ps_fld (pv 0) (pv 1) rfl)
      (pss_cons (ps_fld (pv 0) (pv 2) rfl)
      (pss_one (ps_fld (pv 0) (pv 3) rfl)))), ?_⟩
  obtain ⟨a, dx, op, b, r, rfl, ha, k⟩ := h
  refine ⟨_, rfl, _, rfl, a, _, _, _, rfl, ha, cl_Call c, na_Call_operation c, by show 0 < 1000; decide, _, rfl, _, rfl, a, _, _, _, rfl, upd_same, cl_Call c, na_Call_numbers c, by show 1 < 1000; decide, _, rfl, _, rfl, a, _, _, _, rfl, upd_same, cl_Call c, na_Call_rows c, by show 2 < 1000; decide, ?_⟩
  exact k _ (((((Same.refl H).but [a]).put (by simp)).put (by simp)).put (by simp)) upd_same
def okL (row : List Int) (mo gr : Int) : Bool := decide ((row.length : Int) ≤ mo) && row.all fun n => decide (0 ≤ n) && decide (n ≤ gr)
abbrev N_need_list : List Str := ["row", "bounds", "most", "greatest", "number"]
theorem sc_need_list : FnScope N_need_list ["row", "bounds"] (defScope s_need_list) := ⟨rfl, rfl, rfl, by decide +kernel, rfl, by decide +kernel, by decide +kernel⟩
theorem ok_need_list (c : Ctx K mg) : OkF P w K mg base (L2.CX P w) 4 "need_list" ["row", "bounds"] ((fun vs H Q E => ∃ a bt row mo gr, vs = [.ref a, .ref bt] ∧ LI H a row ∧ SqT K H bt [.int mo, .int gr] ∧ (okL row mo gr = true → Q .non H) ∧ (okL row mo gr = false → Rf E H (-1)))) := by
  refine okF (f_need_list c) (g_need_list c) sc_need_list (fun _ _ _ _ _ _ us hl => match us, hl with | [_, _], _ => rfl) (fun vs H Q E h => by obtain ⟨a, bt, row, mo, gr, rfl, ha, hb, k1, k2⟩ := h; rfl) fun cdv A outer s H vs Q E hr h => ⟨_, (pss_cons (ps_asg (pv 1) (pg_tup rfl (pgs_cons (pg_name (i := 2) sc_need_list.nd rfl (Or.inl rfl)) (pgs_cons (pg_name (i := 3) sc_need_list.nd rfl (Or.inl rfl)) pgs_nil))))
      (pss_cons (ps_expr (pcall (ok_need c) (hr.mono (by decide)) (passes_call (takes_of rfl rfl rfl rfl) (fun _ _ _ _ h => h)) (pa_cons (pe_cmpR op_le (pe_callB (lenK (K := K) rfl) (by rfl) (b_len c) boot_len (pa_cons (pv 0) pa_nil)) (pv 2) (nomark _)) (pa_cons (pgi (i_OUTSIDE c)) pa_nil))))
      (pss_one (ps_for PassesOwn.leaving rfl (pi_list (pv 0)) (pg_name (i := 4) sc_need_list.nd rfl (Or.inl rfl)) (pss_one (ps_expr (pcall (ok_need c) (hr.mono (by decide)) (passes_call (takes_of rfl rfl rfl rfl) (fun _ _ _ _ h => h)) (pa_cons (pe_chain op_le op_le pe_int (pv 4) (pv 3)) (pa_cons (pgi (i_OUTSIDE c)) pa_nil))))))))), ?_⟩
  obtain ⟨a, bt, row, mo, gr, rfl, ha, hb, k1, k2⟩ := h
  refine ⟨_, rfl, bt, _, rfl, hb, rfl, _, _, rfl, _, _, rfl, rfl, ?_⟩
  refine ⟨_, rfl, a, _, rfl, .inl (SqL.of ha), _, rfl, _, _, rfl, rfl, _, _, rfl, fun c1 => ?_, fun c1 => ?_⟩
  · have c1 := of_decide_eq_true c1
    rw [List.length_map] at c1
    refine ⟨_, rfl, a, rfl, ⟨_, SqL.of ha⟩, for_list (K := K) (a := a) (xs := row.map V.int) (fun i σ H' => ∃ x, σ = [some (.ref a), some (.ref bt), some (.int mo), some (.int gr), x] ∧ H' = H ∧ ∀ n ∈ row.take i, 0 ≤ n ∧ n ≤ gr) ⟨none, rfl, rfl, by simp⟩ (fun i σ H' _ ⟨_, _, e, _⟩ => SqL.of (by rw [e]; exact ha)) ?_ ?_⟩
    · rintro i v σ H' hv ⟨x0, rfl, rfl, hi⟩
      obtain ⟨n, hn, rfl⟩ := map_at hv
      have bad : ¬ (0 ≤ n ∧ n ≤ gr) → Rf E H' (-1) := fun e => k2 (by
        unfold okL
        rw [Bool.and_eq_false_iff]
        right
        cases hall : row.all fun n => decide (0 ≤ n) && decide (n ≤ gr) with
        | false => rfl
        | true =>
          have := List.all_eq_true.mp hall n (List.mem_of_getElem? hn)
          rw [Bool.and_eq_true, decide_eq_true_iff, decide_eq_true_iff] at this
          exact absurd this e)
      refine ⟨_, rfl, _, _, rfl, rfl, _, rfl, ?_⟩
      by_cases c2 : 0 ≤ n
      · rw [decide_eq_true c2]
        refine ⟨_, rfl, _, _, rfl, rfl, _, _, rfl, fun c3 => ?_, fun c3 => ?_⟩
        · have c3 := of_decide_eq_true c3
          refine ⟨_, rfl, rfl, fun y hy => ?_⟩
          rw [take_succ hn] at hy
          rcases List.mem_append.mp hy with z | z
          · exact hi y z
          · obtain rfl : y = n := by simpa using z
            exact ⟨c2, c3⟩
        · exact bad fun e => of_decide_eq_false c3 e.2
      · rw [decide_eq_false c2]
        exact ⟨_, _, rfl, fun e => absurd e (by decide), fun _ => bad fun e => c2 e.1⟩
    · rintro σ H' ⟨x0, rfl, rfl, hi⟩
      rw [List.length_map, List.take_of_length_le (Nat.le_refl _)] at hi
      refine k1 ?_
      unfold okL
      rw [Bool.and_eq_true, decide_eq_true_iff, List.all_eq_true]
      refine ⟨c1, fun n hn => ?_⟩
      rw [Bool.and_eq_true, decide_eq_true_iff, decide_eq_true_iff]
      exact hi n hn
  · have c1 := of_decide_eq_false c1
    rw [List.length_map] at c1
    refine k2 ?_
    unfold okL
    rw [Bool.and_eq_false_iff]
    exact .inl (decide_eq_false c1)
end

end VD
namespace VD
open PySem PySem.Spec PyProof.Rows L2
def nbs : List (List Int) := [[], [], [], [51], [], [], [], [], [], [51], [5, 51], [63], [63, 5], [63, 5], [63, 5, 51], [63, 5, 51, 51], [], [], [], [19, 1000000000000000000], [], [], [5, 51], [], []]
def lbs : List (List (Int × Int)) := [[(2000, 255)], [(2000, 255)], [], [], [(60, 255)], [(400, 255)], [], [(3000, 255)], [], [], [], [], [], [], [], [], [(52, 51), (52, 51)], [(52, 51)], [(52, 51)], [], [(19, 51)], [], [], [], []]
section
variable {K : PySem.W.Frag} {mg : Str → Option Value}
theorem nb_at (c : Ctx K mg) (H : Hp) {op : Nat} (h : op < 25) : ∃ ad, ([.ref 21, .ref 22, .ref 23, .ref 24, .ref 25, .ref 26, .ref 27, .ref 28, .ref 29, .ref 30, .ref 31, .ref 32, .ref 33, .ref 34, .ref 35, .ref 36, .ref 37, .ref 38, .ref 39, .ref 40, .ref 41, .ref 42, .ref 43, .ref 44, .ref 45] : List V)[op]? = some (.ref ad) ∧ SqT K H ad ((nbs.getD op []).map V.int) := by
  match op, h with
  | 0, _ => exact ⟨21, rfl, tp_21 c H⟩
  | 1, _ => exact ⟨22, rfl, tp_22 c H⟩
  | 2, _ => exact ⟨23, rfl, tp_23 c H⟩
  | 3, _ => exact ⟨24, rfl, tp_24 c H⟩
  | 4, _ => exact ⟨25, rfl, tp_25 c H⟩
  | 5, _ => exact ⟨26, rfl, tp_26 c H⟩
  | 6, _ => exact ⟨27, rfl, tp_27 c H⟩
  | 7, _ => exact ⟨28, rfl, tp_28 c H⟩
  | 8, _ => exact ⟨29, rfl, tp_29 c H⟩
  | 9, _ => exact ⟨30, rfl, tp_30 c H⟩
  | 10, _ => exact ⟨31, rfl, tp_31 c H⟩
  | 11, _ => exact ⟨32, rfl, tp_32 c H⟩
  | 12, _ => exact ⟨33, rfl, tp_33 c H⟩
  | 13, _ => exact ⟨34, rfl, tp_34 c H⟩
  | 14, _ => exact ⟨35, rfl, tp_35 c H⟩
  | 15, _ => exact ⟨36, rfl, tp_36 c H⟩
  | 16, _ => exact ⟨37, rfl, tp_37 c H⟩
  | 17, _ => exact ⟨38, rfl, tp_38 c H⟩
  | 18, _ => exact ⟨39, rfl, tp_39 c H⟩
  | 19, _ => exact ⟨40, rfl, tp_40 c H⟩
  | 20, _ => exact ⟨41, rfl, tp_41 c H⟩
  | 21, _ => exact ⟨42, rfl, tp_42 c H⟩
  | 22, _ => exact ⟨43, rfl, tp_43 c H⟩
  | 23, _ => exact ⟨44, rfl, tp_44 c H⟩
  | 24, _ => exact ⟨45, rfl, tp_45 c H⟩
  | n + 25, h => exact absurd h (by omega)
theorem lb_at (c : Ctx K mg) (H : Hp) {op : Nat} (h : op < 25) : ∃ ad bs, ([.ref 47, .ref 48, .ref 49, .ref 50, .ref 51, .ref 52, .ref 53, .ref 54, .ref 55, .ref 56, .ref 57, .ref 58, .ref 59, .ref 60, .ref 61, .ref 62, .ref 63, .ref 64, .ref 65, .ref 66, .ref 67, .ref 68, .ref 69, .ref 70, .ref 71] : List V)[op]? = some (.ref ad) ∧ SqT K H ad (bs.map V.ref) ∧ Paired (fun b (x : Int × Int) => SqT K H b [.int x.1, .int x.2]) bs (lbs.getD op []) := by
  match op, h with
  | 0, _ => exact ⟨47, [15], rfl, tp_47 c H, (.cons (tp_15 c H) .nil)⟩
  | 1, _ => exact ⟨48, [15], rfl, tp_48 c H, (.cons (tp_15 c H) .nil)⟩
  | 2, _ => exact ⟨49, [], rfl, tp_49 c H, .nil⟩
  | 3, _ => exact ⟨50, [], rfl, tp_50 c H, .nil⟩
  | 4, _ => exact ⟨51, [16], rfl, tp_51 c H, (.cons (tp_16 c H) .nil)⟩
  | 5, _ => exact ⟨52, [17], rfl, tp_52 c H, (.cons (tp_17 c H) .nil)⟩
  | 6, _ => exact ⟨53, [], rfl, tp_53 c H, .nil⟩
  | 7, _ => exact ⟨54, [18], rfl, tp_54 c H, (.cons (tp_18 c H) .nil)⟩
  | 8, _ => exact ⟨55, [], rfl, tp_55 c H, .nil⟩
  | 9, _ => exact ⟨56, [], rfl, tp_56 c H, .nil⟩
  | 10, _ => exact ⟨57, [], rfl, tp_57 c H, .nil⟩
  | 11, _ => exact ⟨58, [], rfl, tp_58 c H, .nil⟩
  | 12, _ => exact ⟨59, [], rfl, tp_59 c H, .nil⟩
  | 13, _ => exact ⟨60, [], rfl, tp_60 c H, .nil⟩
  | 14, _ => exact ⟨61, [], rfl, tp_61 c H, .nil⟩
  | 15, _ => exact ⟨62, [], rfl, tp_62 c H, .nil⟩
  | 16, _ => exact ⟨63, [19, 19], rfl, tp_63 c H, (.cons (tp_19 c H) (.cons (tp_19 c H) .nil))⟩
  | 17, _ => exact ⟨64, [19], rfl, tp_64 c H, (.cons (tp_19 c H) .nil)⟩
  | 18, _ => exact ⟨65, [19], rfl, tp_65 c H, (.cons (tp_19 c H) .nil)⟩
  | 19, _ => exact ⟨66, [], rfl, tp_66 c H, .nil⟩
  | 20, _ => exact ⟨67, [20], rfl, tp_67 c H, (.cons (tp_20 c H) .nil)⟩
  | 21, _ => exact ⟨68, [], rfl, tp_68 c H, .nil⟩
  | 22, _ => exact ⟨69, [], rfl, tp_69 c H, .nil⟩
  | 23, _ => exact ⟨70, [], rfl, tp_70 c H, .nil⟩
  | 24, _ => exact ⟨71, [], rfl, tp_71 c H, .nil⟩
  | n + 25, h => exact absurd h (by omega)
end
theorem sameT {K : PySem.W.Frag} {H H' : Hp} {a : Addr} {xs : List V} (e : Same H H') (h : SqT K H a xs) : SqT K H' a xs := by
  rcases h with (h | ⟨o, h⟩) | h
  · exact .inl (.inl (e _ _ h))
  · exact .inl (.inr ⟨o, e _ _ h⟩)
  · exact .inr h
def okN (ns bs : List Int) : Bool := (ns.zip bs).all fun x => decide (0 ≤ x.1) && decide (x.1 ≤ x.2)
def okRs (rows : List (List Int)) (bs : List (Int × Int)) : Bool := (rows.zip bs).all fun x => okL x.1 x.2.1 x.2.2
section
variable {P : Program} {w : World} {K : PySem.W.Frag} {mg : Str → Option Value} {base : Heap}
abbrev N_need_ranges : List Str := ["call", "number", "greatest", "row", "bounds"]
theorem sc_need_ranges : FnScope N_need_ranges ["call"] (defScope s_need_ranges) := ⟨rfl, rfl, rfl, by decide +kernel, rfl, by decide +kernel, by decide +kernel⟩
theorem ok_need_ranges (c : Ctx K mg) : OkF P w K mg base (L2.CX P w) 5 "need_ranges" ["call"] ((fun vs H Q E => ∃ a op ns rows, vs = [.ref a] ∧ CallAt H a ((op : Nat) : Int) ns rows ∧ op < 25 ∧ ns.length = (nbs.getD op []).length ∧ rows.length = (lbs.getD op []).length ∧ ((okN ns (nbs.getD op []) && okRs rows (lbs.getD op [])) = true → ∀ H', Same H H' → Q .non H') ∧ ((okN ns (nbs.getD op []) && okRs rows (lbs.getD op [])) = false → ∀ H', Same H H' → Rf E H' (-1)))) := by
  refine okF (f_need_ranges c) (g_need_ranges c) sc_need_ranges (fun _ _ _ _ _ _ us hl => match us, hl with | [_], _ => rfl) (fun vs H Q E h => by obtain ⟨a, op, ns, rows, rfl, ha, hop, hl1, hl2, k1, k2⟩ := h; rfl) fun cdv A outer s H vs Q E hr h => ⟨_, (pss_cons (ps_for PassesOwn.leaving rfl (pi_zipLT rfl (by rfl) (b_zip c) (pa_cons (pe_fldK (K := K) rfl (pv 0)) (pa_cons (pe_ix (ix_tupK (K := K) rfl) (pgr (g_NUMBERS c)) (pe_fldK (K := K) rfl (pv 0)) (fun _ _ => rfl)) pa_nil))) (pg_tup rfl (pgs_cons (pg_name (i := 1) sc_need_ranges.nd rfl (Or.inl rfl)) (pgs_cons (pg_name (i := 2) sc_need_ranges.nd rfl (Or.inl rfl)) pgs_nil))) (pss_one (ps_expr (pcall (ok_need c) (hr.mono (by decide)) (passes_call (takes_of rfl rfl rfl rfl) (fun _ _ _ _ h => h)) (pa_cons (pe_chain op_le op_le pe_int (pv 1) (pv 2)) (pa_cons (pgi (i_OUTSIDE c)) pa_nil))))))
      (pss_one (ps_for PassesOwn.leaving rfl (pi_zipLT rfl (by rfl) (b_zip c) (pa_cons (pe_fldK (K := K) rfl (pv 0)) (pa_cons (pe_ix (ix_tupK (K := K) rfl) (pgr (g_LISTS c)) (pe_fldK (K := K) rfl (pv 0)) (fun _ _ => rfl)) pa_nil))) (pg_tup rfl (pgs_cons (pg_name (i := 3) sc_need_ranges.nd rfl (Or.inl rfl)) (pgs_cons (pg_name (i := 4) sc_need_ranges.nd rfl (Or.inl rfl)) pgs_nil))) (pss_one (ps_expr (pcall (ok_need_list c) (hr.mono (by decide)) (passes_call (takes_of rfl rfl rfl rfl) (fun _ _ _ _ h => h)) (pa_cons (pv 3) (pa_cons (pv 4) pa_nil)))))))), ?_⟩
  obtain ⟨a, op, ns, rows, rfl, ha, hop, hl1, hl2, k1, k2⟩ := h
  obtain ⟨dx, b, q, h1, h2, h3⟩ := ha
  obtain ⟨as, g1, g2⟩ := h3
  obtain ⟨adn, hn1, hn2⟩ := nb_at c H hop
  have okc : ∀ {H1 : Hp}, Same H H1 → H1 a = some (callO dx b q op) := fun s1 => s1 _ _ h1
  have lo : (decide False && true) = false := rfl
  refine ⟨_, rfl, a, _, _, _, _, rfl, h1, cl_Call c, na_Call_numbers c, rfl, _, rfl, a, _, _, _, _, rfl, h1, cl_Call c, na_Call_operation c, rfl, t_NUMBERS, _, (op : Int), _, rfl, rfl, tp_46 c H, atI_nat hn1, b, adn, _, _, rfl, SqL.of h2, hn2, ?_⟩
  generalize hbs : nbs.getD op [] = bs at hl1 hn2 k1 k2
  refine for_it (walk_zipLT (xs := ns.map V.int) (ys := bs.map V.int) (n := ns.length) (by rw [List.length_map]) (by rw [List.length_map]; exact hl1.symm)) (fun i σ H' => ∃ x y u v, σ = [some (.ref a), x, y, u, v] ∧ Same H H' ∧ okN (ns.take i) (bs.take i) = true) ⟨none, none, none, none, rfl, Same.refl _, rfl⟩ (fun i σ H' _ ⟨_, _, _, _, _, s, _⟩ => ⟨SqL.of (s _ _ h2), sameT s hn2⟩) ?_ ?_
  · rintro i v σ H1 H2 hi ⟨x0, y0, u0, v0, rfl, s1, hok⟩ ⟨T, x, y, rfl, hT, rfl, hx, hy⟩
    have hi2 : i < bs.length := by omega
    dsimp only at hx hy
    rw [List.getElem?_map, List.getElem?_eq_getElem hi] at hx
    rw [List.getElem?_map, List.getElem?_eq_getElem hi2] at hy
    obtain rfl : V.int ns[i] = x := Option.some.inj hx
    obtain rfl : V.int bs[i] = y := Option.some.inj hy
    have s2 := s1.trans (Same.new (o := .tup [.int ns[i], .int bs[i]]) hT)
    have st : okN (ns.take (i + 1)) (bs.take (i + 1)) = (okN (ns.take i) (bs.take i) && (decide (0 ≤ ns[i]) && decide (ns[i] ≤ bs[i]))) := by
      unfold okN
      rw [List.take_succ_eq_append_getElem hi, List.take_succ_eq_append_getElem hi2, List.zip_append (by rw [List.length_take, List.length_take]; omega), List.all_append]
      simp
    have no : (decide (0 ≤ ns[i]) && decide (ns[i] ≤ bs[i])) = false → okN ns bs = false := fun e => by
      cases hc : okN ns bs with
      | false => rfl
      | true =>
        exfalso
        unfold okN at hc
        rw [List.all_eq_true] at hc
        have := hc (ns[i], bs[i]) (List.mem_of_getElem? (i := i) (by rw [List.getElem?_zip_eq_some]; exact ⟨List.getElem?_eq_getElem hi, List.getElem?_eq_getElem hi2⟩))
        rw [e] at this
        cases this
    refine ⟨T, _, rfl, SqT.of upd_same, rfl, _, _, rfl, _, _, rfl, rfl, ?_⟩
    have bad : (decide (0 ≤ ns[i]) && decide (ns[i] ≤ bs[i])) = false → Rf E (upd H1 T (.tup [.int ns[i], .int bs[i]])) (-1) := fun e => k2 (by rw [no e, Bool.false_and]) _ s2
    refine ⟨_, rfl, _, _, rfl, rfl, _, rfl, ?_⟩
    by_cases c2 : 0 ≤ ns[i]
    · rw [decide_eq_true c2]
      refine ⟨_, rfl, _, _, rfl, rfl, _, _, rfl, fun c3 => ?_, fun c3 => ?_⟩
      · refine ⟨_, _, _, _, rfl, s2, ?_⟩
        rw [st, hok, decide_eq_true c2, c3]
        rfl
      · exact bad (by rw [c3, Bool.and_false])
    · rw [decide_eq_false c2]
      exact ⟨_, _, rfl, fun e => absurd e (by decide), fun _ => bad (by rw [decide_eq_false c2]; rfl)⟩
  · rintro σ H' ⟨x0, y0, u0, v0, rfl, s1, hok⟩
    rw [List.take_of_length_le (Nat.le_refl _), hl1, List.take_of_length_le (Nat.le_refl _)] at hok
    obtain ⟨adr, br, hr1, hr2, hr3⟩ := lb_at c H hop
    generalize hcs : lbs.getD op [] = cs at hl2 hr3 k1 k2
    rw [hok, Bool.true_and] at k1
    refine ⟨_, rfl, a, _, _, _, _, rfl, okc s1, cl_Call c, na_Call_rows c, rfl, _, rfl, a, _, _, _, _, rfl, okc s1, cl_Call c, na_Call_operation c, rfl, t_LISTS, _, (op : Int), _, rfl, rfl, tp_72 c H', atI_nat hr1, q, adr, _, _, rfl, SqL.of (s1 _ _ g1), sameT s1 hr2, ?_⟩
    refine for_it (walk_zipLT (xs := as.map V.ref) (ys := br.map V.ref) (n := rows.length) (by rw [List.length_map]; exact g2.length) (by rw [List.length_map, hl2]; exact hr3.length) ) (fun i σ H' => ∃ x y u v, σ = [some (.ref a), x, y, u, v] ∧ Same H H' ∧ okRs (rows.take i) (cs.take i) = true) ⟨_, _, _, _, rfl, s1, rfl⟩ (fun i σ H' _ ⟨_, _, _, _, _, s, _⟩ => ⟨SqL.of (s _ _ g1), sameT s hr2⟩) ?_ ?_
    · rintro i v σ H1 H2 hi ⟨x0, y0, u0, v0, rfl, s1, hok⟩ ⟨T, x, y, rfl, hT, rfl, hx, hy⟩
      dsimp only at hx hy
      have hia : i < as.length := by rw [g2.length]; exact hi
      have hib : i < br.length := by rw [hr3.length, ← hl2]; exact hi
      have hic : i < cs.length := by rw [← hl2]; exact hi
      rw [List.getElem?_map, List.getElem?_eq_getElem hia] at hx
      rw [List.getElem?_map, List.getElem?_eq_getElem hib] at hy
      obtain rfl : V.ref as[i] = x := Option.some.inj hx
      obtain rfl : V.ref br[i] = y := Option.some.inj hy
      obtain ⟨rw, hrw, hl⟩ := paired_get g2 (List.getElem?_eq_getElem hia)
      obtain ⟨bd, hbd, ht⟩ := paired_get hr3 (List.getElem?_eq_getElem hib)
      obtain rfl : rows[i] = rw := Option.some.inj ((List.getElem?_eq_getElem hi).symm.trans hrw)
      obtain rfl : cs[i] = bd := Option.some.inj ((List.getElem?_eq_getElem hic).symm.trans hbd)
      have s2 := s1.trans (Same.new (o := .tup [.ref as[i], .ref br[i]]) hT)
      have st : okRs (rows.take (i + 1)) (cs.take (i + 1)) = (okRs (rows.take i) (cs.take i) && okL rows[i] cs[i].1 cs[i].2) := by
        unfold okRs
        rw [List.take_succ_eq_append_getElem hi, List.take_succ_eq_append_getElem hic, List.zip_append (by rw [List.length_take, List.length_take]; omega), List.all_append]
        simp
      have no : okL rows[i] cs[i].1 cs[i].2 = false → okRs rows cs = false := fun e => by
        cases hc : okRs rows cs with
        | false => rfl
        | true =>
          exfalso
          unfold okRs at hc
          rw [List.all_eq_true] at hc
          have := hc (rows[i], cs[i]) (List.mem_of_getElem? (i := i) (by rw [List.getElem?_zip_eq_some]; exact ⟨List.getElem?_eq_getElem hi, List.getElem?_eq_getElem hic⟩))
          rw [e] at this
          cases this
      refine ⟨T, _, rfl, SqT.of upd_same, rfl, _, _, rfl, _, _, rfl, rfl, ?_⟩
      refine ⟨_, rfl, _, rfl, _, _, rows[i], cs[i].1, cs[i].2, rfl, s2 _ _ hl, sameT s2 ht, fun hk => ?_, fun hk => ?_⟩
      · refine ⟨_, _, _, _, rfl, s2, ?_⟩
        rw [st, hok, hk]
        rfl
      · exact k2 (by rw [no hk, Bool.and_false]) _ s2
    · rintro σ H' ⟨x0, y0, u0, v0, rfl, s1, hok⟩
      rw [List.take_of_length_le (Nat.le_refl _), hl2, List.take_of_length_le (Nat.le_refl _)] at hok
      exact k1 hok _ s1
end

end VD
namespace VD
open PySem PySem.Spec PyProof.Rows L2
/-- what a call behind a place reads as -/
def restAt (l : List Int) (pl : Nat) : Option (List (List Int) × List Int) := PyFlat.call PyVbndaa.shape (l.drop pl)
theorem restAt_inv {l : List Int} {pl : Nat} {p : Int} {ns : List Int} {rows : List (List Int)} {t : List Int} (h : restAt l pl = some ((p :: ns) :: rows, t)) : ∃ n k, PyVbndaa.shape p = some (n, k) ∧ l[pl]? = some p ∧ ns = (l.drop (pl + 1)).take n ∧ pl + 1 + n ≤ l.length ∧ PyFlat.rows k (l.drop (pl + 1 + n)) = some (rows, t) := by
  unfold restAt PyFlat.call at h
  cases e : l.drop pl with
  | nil => rw [e] at h; cases h
  | cons q r =>
    rw [e] at h
    have hlt : pl < l.length := by
      rcases Nat.lt_or_ge pl l.length with g | g
      · exact g
      · rw [List.drop_eq_nil_of_le g] at e; cases e
    have e2 := List.drop_eq_getElem_cons hlt
    rw [e] at e2
    obtain ⟨rfl, rfl⟩ := List.cons.inj e2
    dsimp only at h
    split at h
    · cases h
    · rename_i n k hs
      split at h
      · cases h
      · rename_i hn
        split at h
        · cases h
        · rename_i xs t' hr
          cases h
          rw [List.drop_drop] at hr
          rw [List.length_drop] at hn
          exact ⟨n, k, hs, List.getElem?_eq_getElem hlt, rfl, by omega, hr⟩
theorem rows_inv {l : List Int} {b k : Nat} {rows : List (List Int)} {t : List Int} (h : PyFlat.rows (k + 1) (l.drop b) = some (rows, t)) : ∃ (n : Nat) (x : List Int) (xs : List (List Int)), rows = x :: xs ∧ l[b]? = some (n : Int) ∧ b + 1 + n ≤ l.length ∧ x = (l.drop (b + 1)).take n ∧ PyFlat.rows k (l.drop (b + 1 + n)) = some (xs, t) := by
  have hlt : b < l.length := by
    rcases Nat.lt_or_ge b l.length with g | g
    · exact g
    · rw [List.drop_eq_nil_of_le g] at h; cases h
  rw [List.drop_eq_getElem_cons hlt] at h
  unfold PyFlat.rows PyFlat.row at h
  by_cases hc : 0 ≤ l[b] ∧ l[b].toNat ≤ (l.drop (b + 1)).length
  · simp only [if_pos hc] at h
    split at h
    · cases h
    · rename_i xs t' hr
      cases h
      rw [List.drop_drop] at hr
      have h2 := hc.2
      rw [List.length_drop] at h2
      exact ⟨l[b].toNat, _, xs, rfl, by rw [List.getElem?_eq_getElem hlt, Int.toNat_of_nonneg hc.1], by omega, rfl, hr⟩
  · simp only [if_neg hc] at h
    cases h
theorem shape_at : ∀ op < 25, PyVbndaa.shape ((op : Nat) : Int) = some ((nbs.getD op []).length, (lbs.getD op []).length) := by decide +kernel
/-- what is new behind H -/
def fr (H H' : Hp) : Hp := fun b => match H b with
  | none => H' b
  | some _ => none
theorem fr_of {H H' : Hp} {b : Addr} {u : HO} (h : fr H H' b = some u) : H b = none ∧ H' b = some u := by
  unfold fr at h
  cases e : H b with
  | none => rw [e] at h; exact ⟨rfl, h⟩
  | some _ => rw [e] at h; cases h
theorem fr_at {H H' : Hp} {b : Addr} {u : HO} (h1 : H b = none) (h2 : H' b = some u) : fr H H' b = some u := by
  unfold fr
  rw [h1]
  exact h2
/-- a reference to a list of ints -/
def RI0 (H0 : Hp) (H : Hp) (v : V) (r : List Int) : Prop := ∃ a, v = .ref a ∧ LI H a r ∧ H0 a = none
theorem ri0_mono {H0 : Hp} : ∀ (H H' : Hp) (v : V) (e : List Int), Same H H' → RI0 H0 H v e → RI0 H0 H' v e := fun _ _ _ _ s ⟨a, h1, h2, h3⟩ => ⟨a, h1, s _ _ h2, h3⟩
theorem lr_of {H0 H : Hp} {a : Addr} {vs : List V} {rows : List (List Int)} (h : H a = some (.lst vs)) (h0 : H0 a = none) (p : Paired (RI0 H0 H) vs rows) : LR (fr H0 H) a rows := by
  have key : ∀ {vs : List V} {rows : List (List Int)}, Paired (RI0 H0 H) vs rows → ∃ as : List Addr, vs = as.map V.ref ∧ Paired (fun b r => LI (fr H0 H) b r) as rows := by
    intro vs rows p
    induction p with
    | nil => exact ⟨[], rfl, .nil⟩
    | cons r t ih =>
      obtain ⟨a, e, h, hn⟩ := r
      obtain ⟨as, e2, q⟩ := ih
      exact ⟨a :: as, by rw [e, e2]; rfl, .cons (fr_at hn h) q⟩
  obtain ⟨as, e, q⟩ := key p
  exact ⟨as, fr_at h0 (by rw [h, e]), q⟩
section
variable {P : Program} {w : World} {K : PySem.W.Frag} {mg : Str → Option Value} {base : Heap}
abbrev N_read_call : List Str := ["calls", "place", "operation", "behind", "numbers", "rows", "turn", "end"]
theorem sc_read_call : FnScope N_read_call ["calls", "place"] (defScope s_read_call) := ⟨rfl, rfl, rfl, by decide +kernel, rfl, by decide +kernel, by decide +kernel⟩
theorem ok_read_call (c : Ctx K mg) : OkF P w K mg base (L2.CX P w) 3 "read_call" ["calls", "place"] ((fun vs H Q E => ∃ a pl l op ns rows t, vs = [.ref a, .int ((pl : Nat) : Int)] ∧ SqL K H a (l.map V.int) ∧ l.length ≤ 1000000 ∧ restAt l pl = some ((((op : Nat) : Int) :: ns) :: rows, t) ∧ op < 25 ∧ (∀ H' r ca, Same H H' → H ca = none → H' r = some (.tup [.ref ca, .int ((l.length - t.length : Nat) : Int)]) → CallAt (fr H H') ca ((op : Nat) : Int) ns rows → Q (.ref r) H'))) := by
  refine okF (f_read_call c) (g_read_call c) sc_read_call (fun _ _ _ _ _ _ us hl => match us, hl with | [_, _], _ => rfl) (fun vs H Q E h => by obtain ⟨a, pl, l, op, ns, rows, t, rfl, ha, hlen, hc, hop, k⟩ := h; rfl) fun cdv A outer s H vs Q E hr h => ⟨_, (pss_cons (ps_set (i := 2) sc_read_call.nd rfl (Or.inl rfl) (pe_ix (ix_listK (K := K) rfl) (pv 0) (pv 1) (fun _ _ => rfl)))
      (pss_cons (ps_set (i := 3) sc_read_call.nd rfl (Or.inl rfl) (pe_op op_add (pe_op op_add (pv 1) pe_int) (pe_callB (lenK (K := K) rfl) (by rfl) (b_len c) boot_len (pa_cons (pe_ix (ix_tupK (K := K) rfl) (pgr (g_NUMBERS c)) (pv 2) (fun _ _ => rfl)) pa_nil))))
      (pss_cons (ps_set (i := 4) sc_read_call.nd rfl (Or.inl rfl) (pe_slice (sl_listK (K := K) rfl) (pv 0) (po_some (pe_op op_add (pv 1) pe_int)) (po_some (pv 3))))
      (pss_cons (ps_set (i := 5) sc_read_call.nd rfl (Or.inl rfl) (pe_lst pa_nil))
      (pss_cons (ps_for PassesOwn.leaving rfl (pi_range1 (by rfl) (b_range c) (pa_cons (pe_callB (lenK (K := K) rfl) (by rfl) (b_len c) boot_len (pa_cons (pe_ix (ix_tupK (K := K) rfl) (pgr (g_LISTS c)) (pv 2) (fun _ _ => rfl)) pa_nil)) pa_nil)) (pg_name (i := 6) sc_read_call.nd rfl (Or.inl rfl)) (pss_cons (ps_set (i := 7) sc_read_call.nd rfl (Or.inl rfl) (pe_op op_add (pe_op op_add (pv 3) pe_int) (pe_ix (ix_listK (K := K) rfl) (pv 0) (pv 3) (fun _ _ => rfl))))
      (pss_cons (ps_expr (pe_bm PySem.F.plainAttrs_list PySem.F.slot_list_append PySem.F.type_list_append mt_append (pv 5) (pa_cons (pe_slice (sl_listK (K := K) rfl) (pv 0) (po_some (pe_op op_add (pv 3) pe_int)) (po_some (pv 7))) pa_nil)))
      (pss_one (ps_set (i := 3) sc_read_call.nd rfl (Or.inl rfl) (pv 7))))))
      (pss_one (ps_ret (pe_tup (pa_cons (pmake (E := E0) (ok_Call_init c) (hr.mono (by decide)) passL (pa_cons (pv 2) (pa_cons (pv 4) (pa_cons (pv 5) pa_nil)))) (pa_cons (pv 3) pa_nil)))))))))), ?_⟩
  obtain ⟨a, pl, l, op, ns, rows, t, rfl, ha, hlen, hc, hop, k⟩ := h
  obtain ⟨n, m, hs, h0, hns, hn, hrs⟩ := restAt_inv hc
  have h0' : (l.map V.int)[pl]? = some (.int (op : Nat)) := by rw [List.getElem?_map, h0]; rfl
  obtain ⟨adn, hn1, hn2⟩ := nb_at c H hop
  refine ⟨_, rfl, _, rfl, a, _, (pl : Int), _, rfl, rfl, ha, atI_nat h0', ?_⟩
  refine ⟨_, rfl, _, _, rfl, rfl, _, rfl, t_NUMBERS, _, (op : Int), _, rfl, rfl, tp_46 c H, atI_nat hn1, adn, _, rfl, .inr hn2, _, _, rfl, rfl, ?_⟩
  refine ⟨_, rfl, _, rfl, _, _, rfl, rfl, _, rfl, _, rfl, _, rfl, a, _, rfl, ha, fun pn hpn => ?_⟩
  have hsh := shape_at op hop
  rw [hs] at hsh
  obtain ⟨rfl, rfl⟩ : n = (nbs.getD op []).length ∧ m = (lbs.getD op []).length := by
    have := Option.some.inj hsh
    exact ⟨congrArg Prod.fst this, congrArg Prod.snd this⟩
  rw [show cutV (l.map V.int) (some ((pl : Int) + 1)) (some ((pl : Int) + 1 + (((nbs.getD op []).map V.int).length : Nat))) = ns.map V.int by
    rw [List.length_map, show ((pl : Int) + 1) = ((pl + 1 : Nat) : Int) by omega, show (((pl + 1 : Nat) : Int) + ((nbs.getD op []).length : Nat)) = ((pl + 1 + (nbs.getD op []).length : Nat) : Int) by omega, cutV_nat (by omega) (by rw [List.length_map]; omega), map_cut, hns]
    congr 2
    omega]
  have s1 := Same.new (o := .lst (ns.map V.int)) hpn
  refine ⟨Nat.zero_le _, fun f hf => ?_⟩
  have s2 : Same (upd H pn (.lst (ns.map V.int))) (upd (upd H pn (.lst (ns.map V.int))) f (.lst [])) := Same.new hf
  obtain ⟨adr, br, hr1, hr2, hr3⟩ := lb_at c (upd (upd H pn (.lst (ns.map V.int))) f (.lst [])) hop
  have hbl : br.length = (lbs.getD op []).length := hr3.length
  have hm2 : (lbs.getD op []).length ≤ 2 := (by decide +kernel : ∀ op < 25, (lbs.getD op []).length ≤ 2) op hop
  refine ⟨_, rfl, t_LISTS, _, (op : Int), _, rfl, rfl, tp_72 c _, atI_nat hr1, adr, _, rfl, .inr hr2, _, rfl, by omega, by rw [List.length_map]; omega, ?_⟩
  have hN : (br.map V.ref).length = (lbs.getD op []).length := by rw [List.length_map, hbl]
  rw [← hN] at hrs hm2
  generalize hnd : nbs.getD op [] = nds at hns hn hrs
  refine for_range (lo := 0) (n := (br.map V.ref).length) (fun i σ H' => ∃ (z : Int) (b : Nat) (x y : Option V) (acc xs : List (List Int)), σ = [some (.ref a), some (.int (pl : Nat)), some (.int (op : Nat)), some (.int z), some (.ref pn), some (.ref f), x, y] ∧ z = (b : Nat) ∧ AcAt (RI0 H) (upd H pn (.lst (ns.map V.int))) f acc H' ∧ acc.length = i ∧ b ≤ l.length ∧ rows = acc ++ xs ∧ PyFlat.rows ((br.map V.ref).length - i) (l.drop b) = some (xs, t))
    ⟨_, pl + 1 + nds.length, none, none, [], rows, rfl, by rw [List.length_map]; omega, AcAt.start hf, rfl, hn, rfl, hrs⟩ ?_ ?_
  · rintro i σ H' hi ⟨z, b, x, y, acc, xs, rfl, rfl, p, hac, hb, hrw, hrs⟩
    rw [show (br.map V.ref).length - i = (br.map V.ref).length - (i + 1) + 1 by omega] at hrs
    obtain ⟨n, x1, xs1, rfl, hbn, hbe, hx1, hr1⟩ := rows_inv hrs
    have ha' : SqL K H' a (l.map V.int) := (s1.trans p.same0).seq ha
    obtain ⟨vs, hv, hvl⟩ := p.lst
    refine ⟨_, rfl, _, _, rfl, rfl, _, rfl, _, rfl, a, _, (b : Int), .int (n : Int), rfl, rfl, ha', atI_nat (by rw [List.getElem?_map, hbn]; rfl), _, _, rfl, rfl, ?_⟩
    refine ⟨_, rfl, .inl ⟨rfl, _, SqL.of hv⟩, _, rfl, _, rfl, _, _, rfl, rfl, _, rfl, _, rfl, _, rfl, a, _, rfl, ha', fun q hq => ?_⟩
    rw [show cutV (l.map V.int) (some ((b : Int) + 1)) (some ((b : Int) + 1 + (n : Int))) = x1.map V.int by
      rw [show ((b : Int) + 1) = ((b + 1 : Nat) : Int) by omega, show (((b + 1 : Nat) : Int) + (n : Int)) = ((b + 1 + n : Nat) : Int) by omega, cutV_nat (by omega) (by rw [List.length_map]; omega), map_cut, hx1]
      congr 2
      omega]
    have s3 := Same.new (o := .lst (x1.map V.int)) hq
    have hv3 := s3 _ _ hv
    refine ⟨f, vs, _, rfl, rfl, hv3, by rw [sizeLine_eq]; omega, _, rfl, ?_⟩
    refine ⟨_, b + 1 + n, _, _, acc ++ [x1], xs1, rfl, by omega, (p.grow ri0_mono s3).add ri0_mono hv3 ⟨q, rfl, drp_at upd_same (by simpa using (Same.ne (Same.refl _) hv hq).symm), (s1.trans p.same0).free hq⟩, by rw [List.length_append]; exact congrArg (· + 1) hac, hbe, by rw [hrw, List.append_assoc]; rfl, hr1⟩
  · rintro σ H' ⟨z, b, x, y, acc, xs, rfl, rfl, p, hac, hb, hrw, hrs⟩
    rw [Nat.sub_self] at hrs
    obtain ⟨rfl, rfl⟩ : xs = [] ∧ t = l.drop b := by
      have e : PyFlat.rows 0 (l.drop b) = some ([], l.drop b) := by unfold PyFlat.rows; rfl
      rw [e] at hrs
      cases hrs
      exact ⟨rfl, rfl⟩
    rw [List.append_nil] at hrw
    subst hrw
    obtain ⟨ws, hw, hp⟩ := p.done ri0_mono
    refine ⟨_, rfl, _, rfl, _, rfl, fun x dx hx hdx hne => ⟨x, dx, _, pn, f, rfl, upd_same, fun H2 b2 h2 => ⟨rfl, ?_⟩⟩⟩
    refine ⟨_, rfl, by show 2 ≤ sizeLine; decide, fun r hr => ?_⟩
    have s4 : Same H' (upd (upd H' dx (.own x)) x (.ins c_Call dx [])) := (Same.new hdx).put hx
    have s5 : Same H' H2 := fun c o h => b2 c o (s4 c o h) (by simpa using ne_of_none h hx)
    have s6 := Same.new (o := .tup [.ref x, .int (b : Int)]) hr
    have sH := ((s1.trans p.same0).trans s5).trans s6
    have hxn := (s1.trans p.same0).free hx
    have hp2 : Paired (RI0 H (upd H2 r (.tup [.ref x, .int (b : Int)]))) ws rows := Paired.mono (fun v e => ri0_mono _ _ v e (s5.trans s6)) hp
    refine k _ r x sH hxn ?_ ⟨dx, pn, f, fr_at hxn (s6 _ _ h2), fr_at hpn ((s5.trans s6) _ _ (p.same0 _ _ upd_same)), lr_of ((s5.trans s6) _ _ hw) (s1.free hf) hp2⟩
    rw [upd_same, List.length_drop]
    show _ = some (HO.tup [.ref x, .int ((l.length - (l.length - b) : Nat) : Int)])
    rw [show l.length - (l.length - b) = b by omega]
end

end VD
namespace VD
open PySem PySem.Spec PyProof.Rows L2
/-! ### the ranges of the arguments -/
theorem okL_nat {row : List Int} {mo gr : Nat} (h : okL row mo gr = true) : ∃ tx : List Nat, row = Vbndaa.toInts tx ∧ tx.length ≤ mo ∧ ∀ x ∈ tx, x ≤ gr := by
  unfold okL at h
  rw [Bool.and_eq_true, decide_eq_true_iff, List.all_eq_true] at h
  have hn : ∀ x ∈ row, 0 ≤ x ∧ x ≤ gr := fun x hx => by
    have := h.2 x hx
    rw [Bool.and_eq_true, decide_eq_true_iff, decide_eq_true_iff] at this
    exact this
  refine ⟨row.map Int.toNat, ?_, by rw [List.length_map]; omega, fun x hx => ?_⟩
  · unfold Vbndaa.toInts
    rw [List.map_map]
    refine ((List.map_congr_left (g := id) fun x hx => ?_).trans (List.map_id _)).symm
    exact Int.toNat_of_nonneg (hn x hx).1
  · obtain ⟨y, hy, rfl⟩ := List.mem_map.mp hx
    have := hn y hy
    omega
theorem okL_byte (r : List Int) (m : Nat) : Vbndaa.isByteList r m = okL r m 255 := by
  unfold Vbndaa.isByteList okL
  congr 1
  rw [Bool.eq_iff_iff, decide_eq_true_iff, decide_eq_true_iff]
  omega
theorem okL_perm (r : List Int) (m : Nat) : Vbndaa.isPermutationArgument r m = okL r m 51 := by
  unfold Vbndaa.isPermutationArgument okL
  congr 1
  rw [Bool.eq_iff_iff, decide_eq_true_iff, decide_eq_true_iff]
  omega
theorem okN_nil : okN [] [] = true := rfl
theorem okN_cons (x b : Int) (xs bs : List Int) : okN (x :: xs) (b :: bs) = (Vbndaa.inRange x 0 b && okN xs bs) := rfl
theorem okRs_nil : okRs [] [] = true := rfl
theorem okRs_cons (r : List Int) (b : Int × Int) (rs : List (List Int)) (bs : List (Int × Int)) : okRs (r :: rs) (b :: bs) = (okL r b.1 b.2 && okRs rs bs) := rfl
theorem in_nat {x : Int} {b : Nat} (h : Vbndaa.inRange x 0 b = true) : ∃ n : Nat, x = n ∧ n ≤ b := by
  unfold Vbndaa.inRange at h
  rw [Bool.and_eq_true, decide_eq_true_iff, decide_eq_true_iff] at h
  exact ⟨x.toNat, by omega, by omega⟩
theorem len0 {α : Type} {l : List α} (h : l.length = 0) : l = [] := List.length_eq_zero_iff.mp h
theorem len1 {α : Type} {l : List α} (h : l.length = 1) : ∃ a, l = [a] := List.length_eq_one_iff.mp h
theorem len2 {α : Type} {l : List α} (h : l.length = 2) : ∃ a b, l = [a, b] := by
  match l, h with
  | [a, b], _ => exact ⟨a, b, rfl⟩
theorem len3 {α : Type} {l : List α} (h : l.length = 3) : ∃ a b c, l = [a, b, c] := by
  match l, h with
  | [a, b, c], _ => exact ⟨a, b, c, rfl⟩
theorem len4 {α : Type} {l : List α} (h : l.length = 4) : ∃ a b c d, l = [a, b, c, d] := by
  match l, h with
  | [a, b, c, d], _ => exact ⟨a, b, c, d, rfl⟩
/-- a call as it may be handed in -/
structure Ask (op : Nat) (ns : List Int) (rows : List (List Int)) : Prop where
  lt : op < 25
  hns : ns.length = (nbs.getD op []).length
  hrows : rows.length = (lbs.getD op []).length
  big : ∀ x ∈ ns, x ≤ 1000000000000000000
abbrev cl (op : Nat) (ns : List Int) (rows : List (List Int)) : List (List Int) := (((op : Nat) : Int) :: ns) :: rows
def inR (op : Nat) (ns : List Int) (rows : List (List Int)) : Bool := okN ns (nbs.getD op []) && okRs rows (lbs.getD op [])
/-- the calls by their kinds -/
theorem ask_cases {op : Nat} {ns : List Int} {rows : List (List Int)} (h : Ask op ns rows) : ∃ k, Vbndaa.decodeCall (cl op ns rows) = some k := by
  obtain ⟨h0, h1, h2, _⟩ := h
  match op, h0 with
  | 0, _ => obtain rfl := len0 h1; obtain ⟨r, rfl⟩ := len1 h2; exact ⟨_, rfl⟩
  | 1, _ => obtain rfl := len0 h1; obtain ⟨r, rfl⟩ := len1 h2; exact ⟨_, rfl⟩
  | 2, _ => obtain rfl := len0 h1; obtain rfl := len0 h2; exact ⟨_, rfl⟩
  | 3, _ => obtain ⟨x, rfl⟩ := len1 h1; obtain rfl := len0 h2; exact ⟨_, rfl⟩
  | 4, _ => obtain rfl := len0 h1; obtain ⟨r, rfl⟩ := len1 h2; exact ⟨_, rfl⟩
  | 5, _ => obtain rfl := len0 h1; obtain ⟨r, rfl⟩ := len1 h2; exact ⟨_, rfl⟩
  | 6, _ => obtain rfl := len0 h1; obtain rfl := len0 h2; exact ⟨_, rfl⟩
  | 7, _ => obtain rfl := len0 h1; obtain ⟨r, rfl⟩ := len1 h2; exact ⟨_, rfl⟩
  | 8, _ => obtain rfl := len0 h1; obtain rfl := len0 h2; exact ⟨_, rfl⟩
  | 9, _ => obtain ⟨x, rfl⟩ := len1 h1; obtain rfl := len0 h2; exact ⟨_, rfl⟩
  | 10, _ => obtain ⟨x, y, rfl⟩ := len2 h1; obtain rfl := len0 h2; exact ⟨_, rfl⟩
  | 11, _ => obtain ⟨x, rfl⟩ := len1 h1; obtain rfl := len0 h2; exact ⟨_, rfl⟩
  | 12, _ => obtain ⟨x, y, rfl⟩ := len2 h1; obtain rfl := len0 h2; exact ⟨_, rfl⟩
  | 13, _ => obtain ⟨x, y, rfl⟩ := len2 h1; obtain rfl := len0 h2; exact ⟨_, rfl⟩
  | 14, _ => obtain ⟨x, y, z, rfl⟩ := len3 h1; obtain rfl := len0 h2; exact ⟨_, rfl⟩
  | 15, _ => obtain ⟨x, y, z, v, rfl⟩ := len4 h1; obtain rfl := len0 h2; exact ⟨_, rfl⟩
  | 16, _ => obtain rfl := len0 h1; obtain ⟨r, q, rfl⟩ := len2 h2; exact ⟨_, rfl⟩
  | 17, _ => obtain rfl := len0 h1; obtain ⟨r, rfl⟩ := len1 h2; exact ⟨_, rfl⟩
  | 18, _ => obtain rfl := len0 h1; obtain ⟨r, rfl⟩ := len1 h2; exact ⟨_, rfl⟩
  | 19, _ => obtain ⟨x, y, rfl⟩ := len2 h1; obtain rfl := len0 h2; exact ⟨_, rfl⟩
  | 20, _ => obtain rfl := len0 h1; obtain ⟨r, rfl⟩ := len1 h2; exact ⟨_, rfl⟩
  | 21, _ => obtain rfl := len0 h1; obtain rfl := len0 h2; exact ⟨_, rfl⟩
  | 22, _ => obtain ⟨x, y, rfl⟩ := len2 h1; obtain rfl := len0 h2; exact ⟨_, rfl⟩
  | 23, _ => obtain rfl := len0 h1; obtain rfl := len0 h2; exact ⟨_, rfl⟩
  | 24, _ => obtain rfl := len0 h1; obtain rfl := len0 h2; exact ⟨_, rfl⟩
  | n + 25, h => exact absurd h (by omega)
/-- out of a range: the code -1 -/
theorem out_range {op : Nat} {ns : List Int} {rows : List (List Int)} (h : Ask op ns rows) (st : Vbndaa.State) (b : inR op ns rows = false) : Vbndaa.stepLists st (cl op ns rows) = Vbndaa.fail st 1 := by
  obtain ⟨h0, h1, h2, h3⟩ := h
  unfold inR at b
  match op, h0 with
  | 0, _ =>
    obtain rfl := len0 h1; obtain ⟨r, rfl⟩ := len1 h2
    have b : (okL r 2000 255 && true) = false := b
    exact if_pos (c := Vbndaa.isByteList r 2000 = false) (by rw [okL_byte]; simpa using b)
  | 1, _ =>
    obtain rfl := len0 h1; obtain ⟨r, rfl⟩ := len1 h2
    have b : (okL r 2000 255 && true) = false := b
    exact if_pos (c := Vbndaa.isByteList r 2000 = false) (by rw [okL_byte]; simpa using b)
  | 2, _ => obtain rfl := len0 h1; obtain rfl := len0 h2; exact absurd b (by decide)
  | 3, _ =>
    obtain ⟨x, rfl⟩ := len1 h1; obtain rfl := len0 h2
    have b : ((Vbndaa.inRange x 0 51 && true) && true) = false := b
    rw [Bool.and_true, Bool.and_true] at b
    exact if_pos (c := Vbndaa.isPositionArgument x = false) b
  | 4, _ =>
    obtain rfl := len0 h1; obtain ⟨r, rfl⟩ := len1 h2
    have b : (okL r 60 255 && true) = false := b
    exact if_pos (c := Vbndaa.isByteList r 60 = false) (by rw [okL_byte]; simpa using b)
  | 5, _ =>
    obtain rfl := len0 h1; obtain ⟨r, rfl⟩ := len1 h2
    have b : (okL r 400 255 && true) = false := b
    exact if_pos (c := Vbndaa.isByteList r 400 = false) (by rw [okL_byte]; simpa using b)
  | 6, _ => obtain rfl := len0 h1; obtain rfl := len0 h2; exact absurd b (by decide)
  | 7, _ =>
    obtain rfl := len0 h1; obtain ⟨r, rfl⟩ := len1 h2
    have b : (okL r 3000 255 && true) = false := b
    exact if_pos (c := Vbndaa.isByteList r 3000 = false) (by rw [okL_byte]; simpa using b)
  | 8, _ => obtain rfl := len0 h1; obtain rfl := len0 h2; exact absurd b (by decide)
  | 9, _ =>
    obtain ⟨x, rfl⟩ := len1 h1; obtain rfl := len0 h2
    have b : ((Vbndaa.inRange x 0 51 && true) && true) = false := b
    rw [Bool.and_true, Bool.and_true] at b
    exact if_pos (c := Vbndaa.isPositionArgument x = false) b
  | 10, _ =>
    obtain ⟨x, y, rfl⟩ := len2 h1; obtain rfl := len0 h2
    have b : ((Vbndaa.inRange x 0 5 && (Vbndaa.inRange y 0 51 && true)) && true) = false := b
    rw [Bool.and_true, Bool.and_true] at b
    exact if_pos (c := (Vbndaa.inRange x 0 5 && Vbndaa.isPositionArgument y) = false) b
  | 11, _ =>
    obtain ⟨x, rfl⟩ := len1 h1; obtain rfl := len0 h2
    have b : ((Vbndaa.inRange x 0 63 && true) && true) = false := b
    exact if_pos (c := Vbndaa.inRange x 0 63 = false) (by simpa using b)
  | 12, _ =>
    obtain ⟨x, y, rfl⟩ := len2 h1; obtain rfl := len0 h2
    have b : ((Vbndaa.inRange x 0 63 && (Vbndaa.inRange y 0 5 && true)) && true) = false := b
    rw [Bool.and_true, Bool.and_true] at b
    exact if_pos (c := (Vbndaa.inRange x 0 63 && Vbndaa.inRange y 0 5) = false) b
  | 13, _ =>
    obtain ⟨x, y, rfl⟩ := len2 h1; obtain rfl := len0 h2
    have b : ((Vbndaa.inRange x 0 63 && (Vbndaa.inRange y 0 5 && true)) && true) = false := b
    rw [Bool.and_true, Bool.and_true] at b
    exact if_pos (c := (Vbndaa.inRange x 0 63 && Vbndaa.inRange y 0 5) = false) b
  | 14, _ =>
    obtain ⟨x, y, z, rfl⟩ := len3 h1; obtain rfl := len0 h2
    have b : ((Vbndaa.inRange x 0 63 && (Vbndaa.inRange y 0 5 && (Vbndaa.inRange z 0 51 && true))) && true) = false := b
    rw [Bool.and_true, Bool.and_true] at b
    exact if_pos (c := (Vbndaa.inRange x 0 63 && (Vbndaa.inRange y 0 5 && Vbndaa.isPositionArgument z)) = false) b
  | 15, _ =>
    obtain ⟨x, y, z, v, rfl⟩ := len4 h1; obtain rfl := len0 h2
    have b : ((Vbndaa.inRange x 0 63 && (Vbndaa.inRange y 0 5 && (Vbndaa.inRange z 0 51 && (Vbndaa.inRange v 0 51 && true)))) && true) = false := b
    rw [Bool.and_true, Bool.and_true] at b
    exact if_pos (c := (Vbndaa.inRange x 0 63 && (Vbndaa.inRange y 0 5 && (Vbndaa.isPositionArgument z && Vbndaa.isPositionArgument v))) = false) b
  | 16, _ =>
    obtain rfl := len0 h1; obtain ⟨r, q, rfl⟩ := len2 h2
    have b : (okL r 52 51 && (okL q 52 51 && true)) = false := b
    rw [Bool.and_true] at b
    exact if_pos (c := (Vbndaa.isPermutationArgument r Vbndaa.maxCards && Vbndaa.isPermutationArgument q Vbndaa.maxCards) = false) (by rw [okL_perm, okL_perm]; exact b)
  | 17, _ =>
    obtain rfl := len0 h1; obtain ⟨r, rfl⟩ := len1 h2
    have b : (okL r 52 51 && true) = false := b
    rw [Bool.and_true] at b
    exact if_pos (c := Vbndaa.isPermutationArgument r Vbndaa.maxCards = false) (by rw [okL_perm]; exact b)
  | 18, _ =>
    obtain rfl := len0 h1; obtain ⟨r, rfl⟩ := len1 h2
    have b : (okL r 52 51 && true) = false := b
    rw [Bool.and_true] at b
    exact if_pos (c := Vbndaa.isPermutationArgument r Vbndaa.maxCards = false) (by rw [okL_perm]; exact b)
  | 19, _ =>
    obtain ⟨x, y, rfl⟩ := len2 h1; obtain rfl := len0 h2
    have b : ((Vbndaa.inRange x 0 19 && (Vbndaa.inRange y 0 1000000000000000000 && true)) && true) = false := b
    rw [Bool.and_true, Bool.and_true] at b
    refine if_pos (c := (Vbndaa.inRange x 0 19 && decide (0 ≤ y)) = false) ?_
    have e : Vbndaa.inRange y 0 1000000000000000000 = decide (0 ≤ y) := by
      show (decide (0 ≤ y) && decide (y ≤ 1000000000000000000)) = _
      rw [decide_eq_true (h3 y (by simp)), Bool.and_true]
    rw [← e]
    exact b
  | 20, _ =>
    obtain rfl := len0 h1; obtain ⟨r, rfl⟩ := len1 h2
    have b : (okL r 19 51 && true) = false := b
    rw [Bool.and_true] at b
    exact if_pos (c := Vbndaa.isPermutationArgument r Vbndaa.maxRankLength = false) (by rw [okL_perm]; exact b)
  | 21, _ => obtain rfl := len0 h1; obtain rfl := len0 h2; exact absurd b (by decide)
  | 22, _ =>
    obtain ⟨x, y, rfl⟩ := len2 h1; obtain rfl := len0 h2
    have b : ((Vbndaa.inRange x 0 5 && (Vbndaa.inRange y 0 51 && true)) && true) = false := b
    rw [Bool.and_true, Bool.and_true] at b
    exact if_pos (c := (Vbndaa.inRange x 0 5 && Vbndaa.isPositionArgument y) = false) b
  | 23, _ => obtain rfl := len0 h1; obtain rfl := len0 h2; exact absurd b (by decide)
  | 24, _ => obtain rfl := len0 h1; obtain rfl := len0 h2; exact absurd b (by decide)
  | n + 25, h => exact absurd h (by omega)
/-! ### what a step does -/
/-- what the state is behind a step that is not refused -/
def Moves (st : Vbndaa.State) (k : Vbndaa.Call) (st' : Vbndaa.State) : Prop :=
  (∃ t z, k = .loadTable t ∧ Vbndaa.parseTable (Vbndaa.toNats t) = .ok z ∧ st' = some (newS z)) ∨
  (∃ h t a r, k = .perform t ∧ Vbndaa.isByteList t 400 = true ∧ st = some h ∧ Vbndaa.parseAction h.room.table (Vbndaa.toNats t) = .ok a ∧ Vbndaa.applyAction h.room a = .ok r ∧ st' = some ⟨r, h.actions ++ [a]⟩) ∨
  st' = st
def Shape (st : Vbndaa.State) (k : Vbndaa.Call) (r : Vbndaa.State × List Int) : Prop := (∃ n, 0 < n ∧ r = Vbndaa.fail st n) ∨ ∃ st' fs, r = (st', 0 :: fs) ∧ Moves st k st'
theorem sh_fail {st : Vbndaa.State} {k : Vbndaa.Call} {n : Nat} (h : 0 < n := by decide) : Shape st k (Vbndaa.fail st n) := .inl ⟨n, h, rfl⟩
theorem sh_ok {st : Vbndaa.State} {k : Vbndaa.Call} {fs : List Int} : Shape st k (Vbndaa.succeed st fs) := .inr ⟨st, fs, rfl, .inr (.inr rfl)⟩
theorem sh_if {st : Vbndaa.State} {k : Vbndaa.Call} {c : Prop} [Decidable c] {a b : Vbndaa.State × List Int} (h1 : c → Shape st k a) (h2 : ¬ c → Shape st k b) : Shape st k (if c then a else b) := by
  by_cases e : c
  · rw [if_pos e]; exact h1 e
  · rw [if_neg e]; exact h2 e
theorem sh_ses {st : Vbndaa.State} {k : Vbndaa.Call} {f : Vbndaa.Session → Vbndaa.State × List Int} (h : ∀ s, st = some s → Shape st k (f s)) : Shape st k (Vbndaa.withSession st f) := by
  cases st with
  | none => exact sh_fail
  | some s => exact h s rfl
theorem sh_deal {st : Vbndaa.State} {k : Vbndaa.Call} {h : Vbndaa.Session} {f : Unit → Vbndaa.State × List Int} (g : Shape st k (f ())) : Shape st k (Vbndaa.withDeal st h f) := sh_if (fun _ => sh_fail) fun _ => g
theorem step_shape (st : Vbndaa.State) (k : Vbndaa.Call) : Shape st k (Vbndaa.step st k) := by
  cases k with
  | loadTable t =>
    refine sh_if (fun _ => sh_fail) fun _ => ?_
    split
    · exact sh_fail
    · rename_i z hz
      exact .inr ⟨_, _, rfl, .inl ⟨t, z, rfl, hz, rfl⟩⟩
  | checkTable t =>
    refine sh_if (fun _ => sh_fail) fun _ => ?_
    split
    · exact sh_ok
    · exact sh_ok
  | printTable => exact sh_ses fun s hs => sh_ok
  | cardInfo x => exact sh_if (fun _ => sh_fail) fun _ => sh_ses fun s hs => sh_if (fun _ => sh_fail) fun _ => sh_ok
  | findCard t =>
    refine sh_if (fun _ => sh_fail) fun _ => sh_ses fun s hs => ?_
    split
    · exact sh_fail
    · exact sh_ok
  | perform t =>
    refine sh_if (fun _ => sh_fail) fun hb => sh_ses fun s hs => ?_
    split
    · exact sh_fail
    · rename_i a ha
      split
      · exact sh_fail (by omega)
      · rename_i r hr
        exact .inr ⟨_, _, rfl, .inr (.inl ⟨s, t, a, r, rfl, by simpa using hb, hs, ha, hr, rfl⟩)⟩
  | printLog => exact sh_ses fun s hs => sh_ok
  | validateLog t =>
    refine sh_if (fun _ => sh_fail) fun _ => sh_ses fun s hs => ?_
    split
    · exact sh_fail
    · split
      · exact sh_ok
      · exact sh_ok
  | deal => exact sh_ses fun s hs => sh_deal sh_ok
  | trace x => exact sh_if (fun _ => sh_fail) fun _ => sh_ses fun s hs => sh_if (fun _ => sh_fail) fun _ => sh_deal sh_ok
  | canSee x y => exact sh_if (fun _ => sh_fail) fun _ => sh_ses fun s hs => sh_if (fun _ => sh_fail) fun _ => sh_ok
  | positionsSeen x => exact sh_if (fun _ => sh_fail) fun _ => sh_ses fun s hs => sh_if (fun _ => sh_fail) fun _ => sh_ok
  | knownEntries x y => exact sh_if (fun _ => sh_fail) fun _ => sh_ses fun s hs => sh_if (fun _ => sh_fail) fun _ => sh_deal sh_ok
  | openEntryCount x y => exact sh_if (fun _ => sh_fail) fun _ => sh_ses fun s hs => sh_if (fun _ => sh_fail) fun _ => sh_deal sh_ok
  | possibleCards x y z => exact sh_if (fun _ => sh_fail) fun _ => sh_ses fun s hs => sh_if (fun _ => sh_fail) fun _ => sh_deal sh_ok
  | cardProbability x y z v => exact sh_if (fun _ => sh_fail) fun _ => sh_ses fun s hs => sh_if (fun _ => sh_fail) fun _ => sh_deal sh_ok
  | compose o q => exact sh_if (fun _ => sh_fail) fun _ => sh_if (fun _ => sh_fail) fun _ => sh_ok
  | inverse o => exact sh_if (fun _ => sh_fail) fun _ => sh_if (fun _ => sh_fail) fun _ => sh_ok
  | cycles o => exact sh_if (fun _ => sh_fail) fun _ => sh_if (fun _ => sh_fail) fun _ => sh_ok
  | unrank n j => exact sh_if (fun _ => sh_fail) fun _ => sh_if (fun _ => sh_fail) fun _ => sh_ok
  | rank o => exact sh_if (fun _ => sh_fail) fun _ => sh_if (fun _ => sh_fail) fun _ => sh_ok
  | owners => exact sh_ses fun s hs => sh_ok
  | missingGrants x y => exact sh_if (fun _ => sh_fail) fun _ => sh_ses fun s hs => sh_if (fun _ => sh_fail) fun _ => sh_ok
  | summary => exact sh_ses fun s hs => sh_ok
  | verifyLog => exact sh_ses fun s hs => sh_ok
theorem Wh.mono {m m' : Nat} {h : Vbndaa.Session} (w : Wh m h) (e : m ≤ m') : Wh m' h := ⟨w.tab, w.perms, w.perm, w.owns, Nat.le_trans w.grs e, w.grx, Nat.le_trans w.acts e, w.wa, w.log, w.ok⟩
theorem wt_parse {t : List Nat} {z : Vbndaa.Table} (h : Vbndaa.parseTable t = .ok z) : Wt z := by
  have e := parse_table_eq t
  rw [h] at e
  cases c : rdTable t with
  | error p => rw [c] at e; cases e
  | ok y =>
    rw [c] at e
    cases e
    exact wt_table c
/-- a session stays sound -/
theorem wh_moves {m : Nat} {st st' : Vbndaa.State} {k : Vbndaa.Call} (hw : ∀ h, st = some h → Wh m h) (mv : Moves st k st') : ∀ h, st' = some h → Wh (m + 1) h := by
  intro h' e
  rcases mv with ⟨t, z, _, hz, e2⟩ | ⟨h, t, a, r, _, hb, hs, ha, hr, e2⟩ | e2
  · rw [e] at e2
    cases e2
    exact (wh_new (wt_parse hz)).mono (Nat.zero_le _)
  · rw [e] at e2
    cases e2
    have w := hw h hs
    have hp := parse_act_eq w.tab.1 (Vbndaa.toNats t)
    rw [ha] at hp
    have hl : t.length ≤ 400 := by
      unfold Vbndaa.isByteList at hb
      rw [Bool.and_eq_true, decide_eq_true_iff] at hb
      exact hb.1
    have hll := toks_len (Vbndaa.toNats t) 0
    have hn : (Vbndaa.toNats t).length = t.length := List.length_map _
    exact wh_step w (wa_act (by unfold wordsOf; rw [List.length_map]; omega) hp.symm) hr
  · rw [e2] at e
    exact (hw h' e).mono (Nat.le_succ _)
end VD
namespace VD
open PySem PySem.Spec PyProof.Rows L2
/-! ### calls within a try; a call of a local that holds a def -/
def tMethS (C : Addr) (m : Str) (sp : Sp) (E : L2.St → XK) (ta : TE) (t : TA) : TE := fun σ H Q => ta σ H fun x H1 => ∃ a dx fs, x = .ref a ∧ H1 a = some (.ins C dx fs) ∧ fs.lookup m = none ∧ t σ H1 fun vs H2 => sp (x :: vs) H2 Q (E σ)
structure HeldE (P : Program) (w : World) (K : PySem.W.Frag) (mg : Str → Option Value) (base : Heap) (CX : CXT) (k : Nat) (f : Addr) (sp : Sp) : Prop where
  ex : ∃ (fd : FuncData) (ps : List Str), FnOk P w K mg base CX k f fd ps sp ∧ PySem.W.keepIn K (.ref f) = true ∧ Binds K fd ps []
theorem held_of {P : Program} {w : World} {K : PySem.W.Frag} {mg : Str → Option Value} {base : Heap} {CX : CXT} {j k : Nat} {x : Str} {ps : List Str} {sp : Sp} {f : Addr} (O : OkF P w K mg base CX j x ps sp) (hg : mg x = some (.ref f)) (h : j ≤ k) : HeldE P w K mg base CX k f sp := by
  obtain ⟨g, fd, h1, h2, h3, F⟩ := O.ex
  rw [hg] at h1
  cases h1
  exact ⟨fd, ps, F.mono h, h2, h3⟩
def tCallD (P : Program) (w : World) (K : PySem.W.Frag) (mg : Str → Option Value) (base : Heap) (CX : CXT) (k i : Nat) (E : XK) (t : TA) : TE := fun σ H Q => ∃ f sp, σ[i]? = some (some (.ref f)) ∧ HeldE P w K mg base CX k f sp ∧ t σ H fun vs H1 => sp vs H1 Q E
section
variable {X : Cx} {CX : CXT} {k : Nat} {C : Addr} {x m : Str} {ps : List Str} {sp : Sp} {p pos apos : Pos} {e o : Expr} {es : List Expr} {ta : TE} {t : TA}
theorem pcallS {E : L2.St → XK} (O : OkF X.prog X.w X.K X.mg X.base CX k x ps sp) (hr : Room k X.A) (hx : ∀ σ, PassesAt CX X σ (E σ)) (ha : PA X (e :: es) t) (hg : Gl X x := by rfl) (hdb : (x == ("__debug__" : Str)) = false := by decide)
    (he : starEach (e :: es) X.env = (false, eval e X.env) :: starEach es X.env := by rfl) (hpl : (backTo pos (starEach es X.env)).any (·.1) = false := by rfl) :
    PE X (.Call (.Name x p) (e :: es) [] pos) (tCallS sp E t) := by
  obtain ⟨f, fd, h1, h2, h3, F⟩ := O.ex
  exact pe_callS F hr hg h1 h2 h3 hx ha hdb he hpl
theorem pmethS {E : L2.St → XK} (O : OkM X.prog X.w X.K X.mg X.base CX k C m ps sp) (he : PE X o ta) (hr : Room k X.A) (hx : ∀ σ, PassesAt CX X σ (E σ)) (ha : PA X (e :: es) t) {pl : Sem Bool}
    (hst : starEach (e :: es) X.env = (false, eval e X.env) :: starEach es X.env := by rfl) (hpl : (backTo pos (starEach es X.env)).any (·.1) = false := by rfl)
    (ht : eval (.Call (.Attribute o m apos) (e :: es) [] pos) X.env = (do
      let ov ← eval o X.env
      standAt apos.atName
      let (f, first) ← holding [ov] (getMethod ov m pl)
      callWith pos f first (backTo pos (starEach (e :: es) X.env)) (backToKw pos (keywordEach [] X.env))) := by rfl) :
    PE X (.Call (.Attribute o m apos) (e :: es) [] pos) (tMethS C m sp E ta t) := by
  obtain ⟨f, fd, hm, c, hb, F⟩ := O.ex
  refine ⟨fun pins s σ H Q I h => ?_⟩
  refine PySem.W.methodCall_KW (pl := pl) (thn (he.run pins s σ H _ I h) fun u s1 ⟨x, H1, I1, rx, a, dx, fs, ex, ea, l, q⟩ => ?_) ht
  subst ex
  obtain rfl : u = Value.ref a := rx
  refine getmeth_ok I1 ea c hm l ?_
  refine PySem.W.callWith_K (first := [.ref a]) (h₀ := X.base) I.ok.mod.kin hm.kp (thn (ha.run pos pins s1 σ H1 _ I1 q) fun us s2 ⟨vs, H2, I2, r, q2⟩ => ⟨I2.kIn, ?_⟩) hst hpl
  exact run_fnS (us := .ref a :: us) (vs := .ref a :: vs) F hr hb (hx σ) I2 (.cons rfl r) q2
theorem pcallD {E : XK} (i : Nat) (hr : Room k X.A) (hN : X.N[i]? = some x) (hv : Vis X.env.scope x) (hx : Passes CX X E) (ha : PA X (e :: es) t)
    (hdb : (x == ("__debug__" : Str)) = false := by decide) (hcd : (x == ("__classdict__" : Str)) = false := by decide)
    (he : starEach (e :: es) X.env = (false, eval e X.env) :: starEach es X.env := by rfl) (hpl : (backTo pos (starEach es X.env)).any (·.1) = false := by rfl) :
    PE X (.Call (.Name x p) (e :: es) [] pos) (tCallD X.prog X.w X.K X.mg X.base CX k i E t) := by
  refine ⟨fun pins s σ H Q I h => ?_⟩
  obtain ⟨f, sp, hs, A, ht⟩ := h
  obtain ⟨fd, ps, F, hk, hb⟩ := A.ex
  refine (pe_callL (i := i) (f := f) (sp := sp) (dvs := []) (E := E) F hr hN hv hk hb .nil hx ha hdb hcd he hpl).run pins s σ H Q I ⟨hs, ?_⟩
  have e0 : (fun (vs : List V) (H1 : Hp) => sp (vs ++ []) H1 Q E) = fun vs H1 => sp vs H1 Q E := by
    funext vs H1
    rw [List.append_nil]
  show t σ H (fun vs H1 => sp (vs ++ []) H1 Q E)
  rw [e0]
  exact ht
end
/-! ### Refused.__init__ while an error is handled -/
section
variable {P : Program} {w : World} {K : PySem.W.Frag} {mg : Str → Option Value} {base : Heap}
theorem fnH_Refused (c : Ctx K mg) : ∃ fd, L2H.FnH P w K mg base (L2.CX P w) 1 a_Refused_init fd ["self", "code"] (spErr1 c_Refused "code") ∧ Binds K fd ["self", "code"] [] := by
  obtain ⟨fd, F⟩ := f_Refused_init c
  have b := F.binds (ps := ["self", "code"]) fun _ _ _ _ _ _ us hl => match us, hl with | [_, _], _ => rfl
  obtain ⟨oc, od, kV, doc, pm, an, cdv, ct, osl, rfl, lk, hcd⟩ := F.ex
  refine ⟨_, L2H.fn_ofH lk hcd sc_Refused (fun vs H Q E h => ?_) (fun A outer s H vs Q E p hot hr h => ⟨_, pss_one (ps_ost (pv 0) (pv 1)), ?_⟩), b⟩
  · obtain ⟨a, y, rfl, _⟩ := h
    rfl
  · obtain ⟨a, y, rfl, ha, k⟩ := h
    exact ⟨_, rfl, _, rfl, a, c_Refused, rfl, (er_Refused c).ox, (er_Refused c).no _ (by decide), .inl ⟨ha, k⟩⟩
end
end VD
namespace VD
open PySem PySem.Spec PyProof.Rows L2
/-- what an operation on permutations answers: these fields, or -5 -/
def OrdQ (Q : VK) (E : XK) (H : Hp) (b : Bool) (fs : List Int) : Prop := (b = true → ∀ f H', Same H H' → H f = none → LI H' f fs → Q (.ref f) H') ∧ (b = false → ∀ H', Same H H' → Rf E H' (-5))
theorem unr_len : ∀ (n : Nat) (l : List Nat) (k : Nat), (Vbndaa.unrankFrom l n k).length = n
  | 0, _, _ => rfl
  | n + 1, l, k => by
    show (Vbndaa.unrankFrom _ n _).length + 1 = n + 1
    rw [unr_len n]
theorem cyc_len (o : List Nat) (s : Nat) : ∀ (f b : Nat), (Vbndaa.cycleFrom o s f b).length ≤ f
  | 0, _ => Nat.le_refl _
  | f + 1, b => by
    unfold Vbndaa.cycleFrom
    split
    · simp
    · have := cyc_len o s f (o.getD b 0)
      simp only [List.length_cons]
      omega
theorem cycles_len {o : List Nat} {r : List Nat} (h : r ∈ Vbndaa.cycles o) : r.length ≤ o.length := by
  unfold Vbndaa.cycles at h
  obtain ⟨b, _, e⟩ := List.mem_filterMap.mp h
  dsimp only at e
  split at e
  · cases e
    exact cyc_len o b o.length b
  · cases e
theorem cycles_num (o : List Nat) : (Vbndaa.cycles o).length ≤ o.length := by
  unfold Vbndaa.cycles
  refine Nat.le_trans (List.length_filterMap_le _ _) ?_
  rw [List.length_range]
  exact Nat.le_refl _
theorem flat_len {l : List (List Nat)} {m : Nat} (h : ∀ r ∈ l, r.length ≤ m) : (l.flatMap Vbndaa.withLength).length ≤ l.length * (m + 1) := by
  induction l with
  | nil => simp
  | cons r t ih =>
    have h1 := h r (by simp)
    have h2 := ih fun x hx => h x (by simp [hx])
    rw [List.flatMap_cons, List.length_append]
    have e : (Vbndaa.withLength r).length = r.length + 1 := by
      unfold Vbndaa.withLength Vbndaa.toInts
      rw [List.length_cons, List.length_map]
    rw [e, List.length_cons, Nat.succ_mul]
    omega
section
variable {P : Program} {w : World} {K : PySem.W.Frag} {mg : Str → Option Value} {base : Heap}
abbrev N_need_permutation : List Str := ["row"]
theorem sc_need_permutation : FnScope N_need_permutation ["row"] (defScope s_need_permutation) := ⟨rfl, rfl, rfl, by decide +kernel, rfl, by decide +kernel, by decide +kernel⟩
theorem ok_need_permutation (c : Ctx K mg) : OkF P w K mg base (L2.CX P w) 4 "need_permutation" ["row"] ((fun vs H Q E => ∃ a o, vs = [.ref a] ∧ LN H a o ∧ o.length ≤ 100000 ∧ (Vbndaa.isPermutation o.length o = true → ∀ H', Same H H' → Q .non H') ∧ (Vbndaa.isPermutation o.length o = false → ∀ H', Same H H' → Rf E H' (-5)))) := by
  refine okF (f_need_permutation c) (g_need_permutation c) sc_need_permutation (fun _ _ _ _ _ _ us hl => match us, hl with | [_], _ => rfl) (fun vs H Q E h => by obtain ⟨a, o, rfl, ha, hz, k1, k2⟩ := h; rfl) fun cdv A outer s H vs Q E hr h => ⟨_, (pss_one (ps_expr (pcall (ok_need c) (hr.mono (by decide)) (passes_call (takes_of rfl rfl rfl rfl) (fun _ _ _ _ h => h)) (pa_cons (pcall (E := E0) (ok_is_permutation c) (hr.mono (by decide)) passL (pa_cons (pv 0) pa_nil)) (pa_cons (pgi (i_NO_PERMUTATION_arguments c)) pa_nil))))), ?_⟩
  obtain ⟨a, o, rfl, ha, hz, k1, k2⟩ := h
  exact ⟨_, rfl, a, o, rfl, ha, hz, fun H1 s1 => ⟨_, _, rfl, fun e => k1 e H1 s1, fun e => k2 e H1 s1⟩⟩
abbrev N_compose : List Str := ["one", "other"]
theorem sc_compose : FnScope N_compose ["one", "other"] (defScope s_compose) := ⟨rfl, rfl, rfl, by decide +kernel, rfl, by decide +kernel, by decide +kernel⟩
theorem ok_compose (c : Ctx K mg) : OkF P w K mg base (L2.CX P w) 5 "compose" ["one", "other"] ((fun vs H Q E => ∃ a b o q, vs = [.ref a, .ref b] ∧ LN H a o ∧ LN H b q ∧ o.length ≤ 52 ∧ q.length ≤ 52 ∧ OrdQ Q E H (Vbndaa.isPermutation o.length o && Vbndaa.isPermutation o.length q) (Vbndaa.withLength (Vbndaa.compose o q)))) := by
  refine okF (f_compose c) (g_compose c) sc_compose (fun _ _ _ _ _ _ us hl => match us, hl with | [_, _], _ => rfl) (fun vs H Q E h => by obtain ⟨a, b, o, q, rfl, ha, hb, hz1, hz2, k⟩ := h; rfl) fun cdv A outer s H vs Q E hr h => ⟨_, (pss_cons (ps_expr (pcall (ok_need c) (hr.mono (by decide)) (passes_call (takes_of rfl rfl rfl rfl) (fun _ _ _ _ h => h)) (pa_cons (pe_cmpR op_eq (pe_callB (lenK (K := K) rfl) (by rfl) (b_len c) boot_len (pa_cons (pv 0) pa_nil)) (pe_callB (lenK (K := K) rfl) (by rfl) (b_len c) boot_len (pa_cons (pv 1) pa_nil)) (nomark _)) (pa_cons (pgi (i_NO_PERMUTATION_arguments c)) pa_nil))))
      (pss_cons (ps_expr (pcall (ok_need_permutation c) (hr.mono (by decide)) (passes_call (takes_of rfl rfl rfl rfl) (fun _ _ _ _ h => h)) (pa_cons (pv 0) pa_nil)))
      (pss_cons (ps_expr (pcall (ok_need_permutation c) (hr.mono (by decide)) (passes_call (takes_of rfl rfl rfl rfl) (fun _ _ _ _ h => h)) (pa_cons (pv 1) pa_nil)))
      (pss_one (ps_ret (pcall (E := E0) (ok_counted c) (hr.mono (by decide)) passL (pa_cons (pcall (E := E0) (ok_composed c) (hr.mono (by decide)) passL (pa_cons (pv 0) (pa_cons (pv 1) pa_nil))) pa_nil))))))), ?_⟩
  obtain ⟨a, b, o, q, rfl, ha, hb, hz1, hz2, k⟩ := h
  refine ⟨_, rfl, a, _, rfl, .inl (SqL.of ha), _, rfl, b, _, rfl, .inl (SqL.of hb), rfl, _, _, rfl, fun e => ?_, fun e => ?_⟩
  · have e := of_decide_eq_true e
    rw [List.length_map, List.length_map] at e
    have e : o.length = q.length := nv_inj e
    refine ⟨_, rfl, a, o, rfl, ha, by omega, fun e1 H1 s1 => ?_, fun e1 H1 s1 => k.2 (by rw [e1]; rfl) H1 s1⟩
    refine ⟨_, rfl, b, q, rfl, s1 _ _ hb, by omega, fun e2 H2 s2 => ?_, fun e2 H2 s2 => k.2 (by rw [e, e2, Bool.and_false]) H2 (s1.trans s2)⟩
    have s12 := s1.trans s2
    have hq := isPerm_iff.mp e2
    refine ⟨_, rfl, _, rfl, a, b, o, q, rfl, s12 _ _ ha, s12 _ _ hb, fun x hx => by rw [e]; exact hq.2.1 x hx, by omega, fun D H3 s3 hD hl => ⟨D, _, rfl, hl, ?_, fun f H4 s4 hf hl4 => k.1 (by rw [e1, e, e2]; rfl) f H4 ((s12.trans s3).trans s4) ((s12.trans s3).old hf) hl4⟩⟩
    show (q.map _).length ≤ _
    rw [List.length_map]
    omega
  · have e := of_decide_eq_false e
    rw [List.length_map, List.length_map] at e
    refine k.2 ?_ H (Same.refl _)
    cases hc : Vbndaa.isPermutation o.length q with
    | false => rw [Bool.and_false]
    | true => exact absurd (congrArg (fun n : Nat => V.int (n : Int)) (isPerm_iff.mp hc).1.symm) e
abbrev N_inverse : List Str := ["row"]
theorem sc_inverse : FnScope N_inverse ["row"] (defScope s_inverse) := ⟨rfl, rfl, rfl, by decide +kernel, rfl, by decide +kernel, by decide +kernel⟩
theorem ok_inverse (c : Ctx K mg) : OkF P w K mg base (L2.CX P w) 5 "inverse" ["row"] ((fun vs H Q E => ∃ a o, vs = [.ref a] ∧ LN H a o ∧ o.length ≤ 52 ∧ OrdQ Q E H (Vbndaa.isPermutation o.length o) (Vbndaa.withLength (Vbndaa.inverse o)))) := by
  refine okF (f_inverse c) (g_inverse c) sc_inverse (fun _ _ _ _ _ _ us hl => match us, hl with | [_], _ => rfl) (fun vs H Q E h => by obtain ⟨a, o, rfl, ha, hz, k⟩ := h; rfl) fun cdv A outer s H vs Q E hr h => ⟨_, (pss_cons (ps_expr (pcall (ok_need_permutation c) (hr.mono (by decide)) (passes_call (takes_of rfl rfl rfl rfl) (fun _ _ _ _ h => h)) (pa_cons (pv 0) pa_nil)))
      (pss_one (ps_ret (pcall (E := E0) (ok_counted c) (hr.mono (by decide)) passL (pa_cons (pcall (E := E0) (ok_inverse_of c) (hr.mono (by decide)) passL (pa_cons (pv 0) pa_nil)) pa_nil))))), ?_⟩
  obtain ⟨a, o, rfl, ha, hz, k⟩ := h
  refine ⟨_, rfl, a, o, rfl, ha, by omega, fun e1 H1 s1 => ?_, fun e1 H1 s1 => k.2 e1 H1 s1⟩
  refine ⟨_, rfl, a, o, rfl, s1 _ _ ha, by omega, e1, fun D H3 s3 hD hl => ⟨D, _, rfl, hl, ?_, fun f H4 s4 hf hl4 => k.1 e1 f H4 ((s1.trans s3).trans s4) ((s1.trans s3).old hf) hl4⟩⟩
  show ((List.range o.length).map _).length ≤ _
  rw [List.length_map, List.length_range]
  omega
abbrev N_cycles : List Str := ["row", "rows", "found", "cycle"]
theorem sc_cycles : FnScope N_cycles ["row"] (defScope s_cycles) := ⟨rfl, rfl, rfl, by decide +kernel, rfl, by decide +kernel, by decide +kernel⟩
theorem ok_cycles (c : Ctx K mg) : OkF P w K mg base (L2.CX P w) 5 "cycles" ["row"] ((fun vs H Q E => ∃ a o, vs = [.ref a] ∧ LN H a o ∧ o.length ≤ 52 ∧ OrdQ Q E H (Vbndaa.isPermutation o.length o) (((Vbndaa.cycles o).length : Int) :: (Vbndaa.cycles o).flatMap Vbndaa.withLength))) := by
  refine okF (f_cycles c) (g_cycles c) sc_cycles (fun _ _ _ _ _ _ us hl => match us, hl with | [_], _ => rfl) (fun vs H Q E h => by obtain ⟨a, o, rfl, ha, hz, k⟩ := h; rfl) fun cdv A outer s H vs Q E hr h => ⟨_, (pss_cons (ps_expr (pcall (ok_need_permutation c) (hr.mono (by decide)) (passes_call (takes_of rfl rfl rfl rfl) (fun _ _ _ _ h => h)) (pa_cons (pv 0) pa_nil)))
      (pss_cons (ps_set (i := 1) sc_cycles.nd rfl (Or.inl rfl) (pcall (E := E0) (ok_cycles_of c) (hr.mono (by decide)) passL (pa_cons (pv 0) pa_nil)))
      (pss_cons (ps_set (i := 2) sc_cycles.nd rfl (Or.inl rfl) (pe_lst (pa_cons (pe_callB (lenK (K := K) rfl) (by rfl) (b_len c) boot_len (pa_cons (pv 1) pa_nil)) pa_nil)))
      (pss_cons (ps_for PassesOwn.leaving rfl (pi_list (pv 1)) (pg_name (i := 3) sc_cycles.nd rfl (Or.inl rfl)) (pss_one (ps_expr (pe_bm PySem.F.plainAttrs_list PySem.F.slot_list_extend PySem.F.type_list_extend mt_extend (pv 2) (pa_cons (pcall (E := E0) (ok_counted c) (hr.mono (by decide)) passL (pa_cons (pv 3) pa_nil)) pa_nil)))))
      (pss_one (ps_ret (pv 2))))))), ?_⟩
  obtain ⟨a, o, rfl, ha, hz, k⟩ := h
  refine ⟨_, rfl, a, o, rfl, ha, by omega, fun e1 H1 s1 => ?_, fun e1 H1 s1 => k.2 e1 H1 s1⟩
  refine ⟨_, rfl, a, o, rfl, s1 _ _ ha, by omega, e1, fun D H3 vs s3 hD hl hp => ?_⟩
  have hcn := cycles_num o
  have hcl : ∀ r ∈ Vbndaa.cycles o, r.length ≤ 52 := fun r hr => Nat.le_trans (cycles_len hr) hz
  generalize Vbndaa.cycles o = cs at k hp hcn hcl
  refine ⟨_, rfl, D, _, rfl, .inl (SqL.of hl), by show 1 ≤ sizeLine; decide, fun f hf => ?_⟩
  have s4 := Same.new (o := .lst [V.int (vs.length : Nat)]) hf
  refine ⟨_, rfl, D, rfl, ⟨_, SqL.of (s4 _ _ hl)⟩, for_list (K := K) (a := D) (xs := vs) (fun i σ H' => ∃ x, σ = [some (.ref a), some (.ref D), some (.ref f), x] ∧ Same H3 H' ∧ LI H' f ((cs.length : Int) :: (cs.take i).flatMap Vbndaa.withLength)) ⟨none, rfl, s4, by show upd _ f _ f = _; rw [upd_same, hp.length]; rfl⟩ (fun i σ H' _ ⟨_, _, s, _⟩ => SqL.of (s _ _ hl)) ?_ ?_⟩
  · rintro i v σ H' hv ⟨x0, rfl, s5, hl5⟩
    obtain ⟨r, hr, b, rfl, hb⟩ := pr_get hp hv
    have hrl := hcl r (List.mem_of_getElem? hr)
    refine ⟨_, rfl, .inl ⟨rfl, _, SqL.of hl5⟩, _, rfl, b, r, rfl, s5 _ _ hb, by omega, fun g H6 s6 hg hl6 => ?_⟩
    have hl7 := s6 _ _ hl5
    have hfl := flat_len (l := cs.take i) (m := 52) fun y hy => hcl y (List.mem_of_mem_take hy)
    have hti : (cs.take i).length ≤ 52 := by rw [List.length_take]; omega
    have hwl : (Vbndaa.withLength r).length = r.length + 1 := by
      unfold Vbndaa.withLength Vbndaa.toInts
      rw [List.length_cons, List.length_map]
    have hmul : (cs.take i).length * (52 + 1) ≤ 52 * 53 := Nat.mul_le_mul hti (Nat.le_refl _)
    refine ⟨f, g, _, _, rfl, rfl, hl7, hl6, ?_, ?_⟩
    · rw [sizeLine_eq, List.length_map, List.length_map, List.length_cons]
      omega
    · refine ⟨_, rfl, (s5.trans s6).put ?_, ?_⟩
      · exact hf
      · show upd _ f _ f = _
        rw [upd_same, take_succ hr, List.flatMap_append, List.map_cons, List.map_cons, List.map_append, List.flatMap_cons, List.flatMap_nil, List.append_nil]
        rfl
  · rintro σ H' ⟨x0, rfl, s5, hl5⟩
    rw [List.take_of_length_le (by rw [hp.length]; exact Nat.le_refl _)] at hl5
    exact ⟨_, rfl, k.1 e1 f H' ((s1.trans s3).trans s5) ((s1.trans s3).old hf) hl5⟩
abbrev N_unrank : List Str := ["many", "number"]
theorem sc_unrank : FnScope N_unrank ["many", "number"] (defScope s_unrank) := ⟨rfl, rfl, rfl, by decide +kernel, rfl, by decide +kernel, by decide +kernel⟩
theorem ok_unrank (c : Ctx K mg) : OkF P w K mg base (L2.CX P w) 4 "unrank" ["many", "number"] ((fun vs H Q E => ∃ n j, vs = [nv n, nv j] ∧ n ≤ 19 ∧ OrdQ Q E H (decide (j < Vbndaa.factorial n)) (Vbndaa.withLength (Vbndaa.unrank n j)))) := by
  refine okF (f_unrank c) (g_unrank c) sc_unrank (fun _ _ _ _ _ _ us hl => match us, hl with | [_, _], _ => rfl) (fun vs H Q E h => by obtain ⟨n, j, rfl, hn, k⟩ := h; rfl) fun cdv A outer s H vs Q E hr h => ⟨_, (pss_cons (ps_expr (pcall (ok_need c) (hr.mono (by decide)) (passes_call (takes_of rfl rfl rfl rfl) (fun _ _ _ _ h => h)) (pa_cons (pe_cmpR op_lt (pv 1) (pcall (E := E0) (ok_factorial_of c) (hr.mono (by decide)) passL (pa_cons (pv 0) pa_nil)) (nomark _)) (pa_cons (pgi (i_NO_PERMUTATION_arguments c)) pa_nil))))
      (pss_one (ps_ret (pcall (E := E0) (ok_counted c) (hr.mono (by decide)) passL (pa_cons (pcall (E := E0) (ok_permutation_at c) (hr.mono (by decide)) passL (pa_cons (pv 0) (pa_cons (pv 1) pa_nil))) pa_nil))))), ?_⟩
  obtain ⟨n, j, rfl, hn, k⟩ := h
  refine ⟨_, rfl, _, rfl, n, rfl, hn, _, _, rfl, rfl, _, _, rfl, fun e => ?_, fun e => ?_⟩
  · have e : j < Vbndaa.factorial n := by have := of_decide_eq_true e; omega
    refine ⟨_, rfl, _, rfl, n, j, rfl, hn, e, fun D H3 s3 hD hl => ⟨D, _, rfl, hl, ?_, fun f H4 s4 hf hl4 => k.1 (decide_eq_true e) f H4 (s3.trans s4) (s3.old hf) hl4⟩⟩
    unfold Vbndaa.unrank
    rw [unr_len]
    omega
  · exact k.2 (decide_eq_false fun z => of_decide_eq_false e (by omega)) H (Same.refl _)
abbrev N_rank : List Str := ["row"]
theorem sc_rank : FnScope N_rank ["row"] (defScope s_rank) := ⟨rfl, rfl, rfl, by decide +kernel, rfl, by decide +kernel, by decide +kernel⟩
theorem ok_rank (c : Ctx K mg) : OkF P w K mg base (L2.CX P w) 5 "rank" ["row"] ((fun vs H Q E => ∃ a o, vs = [.ref a] ∧ LN H a o ∧ o.length ≤ 19 ∧ OrdQ Q E H (Vbndaa.isPermutation o.length o) [(Vbndaa.rankPermutation o : Int)])) := by
  refine okF (f_rank c) (g_rank c) sc_rank (fun _ _ _ _ _ _ us hl => match us, hl with | [_], _ => rfl) (fun vs H Q E h => by obtain ⟨a, o, rfl, ha, hz, k⟩ := h; rfl) fun cdv A outer s H vs Q E hr h => ⟨_, (pss_cons (ps_expr (pcall (ok_need_permutation c) (hr.mono (by decide)) (passes_call (takes_of rfl rfl rfl rfl) (fun _ _ _ _ h => h)) (pa_cons (pv 0) pa_nil)))
      (pss_one (ps_ret (pe_lst (pa_cons (pcall (E := E0) (ok_number_of c) (hr.mono (by decide)) passL (pa_cons (pv 0) pa_nil)) pa_nil))))), ?_⟩
  obtain ⟨a, o, rfl, ha, hz, k⟩ := h
  refine ⟨_, rfl, a, o, rfl, ha, by omega, fun e1 H1 s1 => ?_, fun e1 H1 s1 => k.2 e1 H1 s1⟩
  refine ⟨_, rfl, a, o, rfl, s1 _ _ ha, hz, fun H2 s2 => ⟨by show 1 ≤ sizeLine; decide, fun f hf => k.1 e1 f _ ((s1.trans s2).trans (Same.new hf)) ((s1.trans s2).old hf) ?_⟩⟩
  show upd _ f _ f = _
  rw [upd_same, ← rank_is e1]
  rfl
end

end VD
namespace VD
open PySem PySem.Spec PyProof.Rows L2
/-- what an operation without a table answers, whatever the state -/
def OQ (Q : VK) (E : XK) (H : Hp) (st : Vbndaa.State) (c : List (List Int)) : Prop :=
  (∀ k : Nat, Vbndaa.stepLists st c = Vbndaa.fail st k → ∀ H', Same H H' → Rf E H' (-(k : Int))) ∧
  ∀ fs, Vbndaa.stepLists st c = (st, 0 :: fs) → ∀ f H', Same H H' → H f = none → LI H' f fs → Q (.ref f) H'
theorem OQ.ord {Q : VK} {E : XK} {H : Hp} {st : Vbndaa.State} {c : List (List Int)} {b : Bool} {fs : List Int} (q : OQ Q E H st c) (e : Vbndaa.stepLists st c = if b = false then Vbndaa.fail st 5 else Vbndaa.succeed st fs) : OrdQ Q E H b fs := by
  refine ⟨fun h => q.2 fs ?_, fun h => q.1 5 ?_⟩
  · rw [e, h]
    rfl
  · rw [e, if_pos h]
theorem ints_len (l : List Nat) : (Vbndaa.toInts l).length = l.length := List.length_map _
theorem okL_of {tx : List Nat} {m gr : Nat} (h1 : tx.length ≤ m) (h2 : ∀ x ∈ tx, x ≤ gr) : okL (Vbndaa.toInts tx) m gr = true := by
  unfold okL
  rw [Bool.and_eq_true, decide_eq_true_iff, List.all_eq_true, ints_len]
  refine ⟨by omega, fun x hx => ?_⟩
  obtain ⟨n, hn, rfl⟩ := List.mem_map.mp hx
  have := h2 n hn
  rw [Bool.and_eq_true, decide_eq_true_iff, decide_eq_true_iff]
  omega
theorem row1 {H : Hp} {q : Addr} {r : List Int} {m gr : Nat} (h : LR H q [r]) (e : okL r m gr = true) : ∃ (x : Addr) (tx : List Nat), H q = some (.lst [.ref x]) ∧ r = Vbndaa.toInts tx ∧ LN H x tx ∧ tx.length ≤ m ∧ ∀ y ∈ tx, y ≤ gr := by
  obtain ⟨as, h1, h2⟩ := h
  cases h2 with
  | cons hx t =>
    cases t
    obtain ⟨tx, rfl, e1, e2⟩ := okL_nat e
    exact ⟨_, tx, h1, rfl, li_ln.mp hx, e1, e2⟩
theorem row2 {H : Hp} {q : Addr} {r s : List Int} {m gr : Nat} (h : LR H q [r, s]) (e : (okL r m gr && okL s m gr) = true) : ∃ (x y : Addr) (tx ty : List Nat), H q = some (.lst [.ref x, .ref y]) ∧ r = Vbndaa.toInts tx ∧ s = Vbndaa.toInts ty ∧ LN H x tx ∧ LN H y ty ∧ tx.length ≤ m ∧ ty.length ≤ m ∧ (∀ y ∈ tx, y ≤ gr) ∧ ∀ y ∈ ty, y ≤ gr := by
  obtain ⟨as, h1, h2⟩ := h
  rw [Bool.and_eq_true] at e
  cases h2 with
  | cons hx t =>
    cases t with
    | cons hy t =>
      cases t
      obtain ⟨tx, rfl, e1, e2⟩ := okL_nat e.1
      obtain ⟨ty, rfl, e3, e4⟩ := okL_nat e.2
      exact ⟨_, _, tx, ty, h1, rfl, rfl, li_ln.mp hx, li_ln.mp hy, e1, e3, e2, e4⟩
theorem perm_ok {tx : List Nat} {m : Nat} (h1 : tx.length ≤ m) (h2 : ∀ x ∈ tx, x ≤ 51) : Vbndaa.isPermutationArgument (Vbndaa.toInts tx) m = true := by
  rw [okL_perm]
  exact okL_of (gr := 51) h1 h2
theorem ord_16 {o q : List Nat} (st : Vbndaa.State) (h1 : o.length ≤ 52) (h2 : q.length ≤ 52) (h3 : ∀ x ∈ o, x ≤ 51) (h4 : ∀ x ∈ q, x ≤ 51) : Vbndaa.stepLists st (cl 16 [] [Vbndaa.toInts o, Vbndaa.toInts q]) = if (Vbndaa.isPermutation o.length o && Vbndaa.isPermutation o.length q) = false then Vbndaa.fail st 5 else Vbndaa.succeed st (Vbndaa.withLength (Vbndaa.compose o q)) := by
  have e : Vbndaa.stepLists st (cl 16 [] [Vbndaa.toInts o, Vbndaa.toInts q]) = if (Vbndaa.isPermutationArgument (Vbndaa.toInts o) 52 && Vbndaa.isPermutationArgument (Vbndaa.toInts q) 52) = false then Vbndaa.fail st 1 else if (Vbndaa.isPermutation (Vbndaa.toInts o).length (Vbndaa.toNats (Vbndaa.toInts o)) && Vbndaa.isPermutation (Vbndaa.toInts o).length (Vbndaa.toNats (Vbndaa.toInts q))) = false then Vbndaa.fail st 5 else Vbndaa.succeed st (Vbndaa.withLength (Vbndaa.compose (Vbndaa.toNats (Vbndaa.toInts o)) (Vbndaa.toNats (Vbndaa.toInts q)))) := rfl
  rw [e, perm_ok h1 h3, perm_ok h2 h4, if_neg (by decide), ints_len, nats_ints, nats_ints]
theorem ord_17 {o : List Nat} (st : Vbndaa.State) (h1 : o.length ≤ 52) (h3 : ∀ x ∈ o, x ≤ 51) : Vbndaa.stepLists st (cl 17 [] [Vbndaa.toInts o]) = if Vbndaa.isPermutation o.length o = false then Vbndaa.fail st 5 else Vbndaa.succeed st (Vbndaa.withLength (Vbndaa.inverse o)) := by
  have e : Vbndaa.stepLists st (cl 17 [] [Vbndaa.toInts o]) = if Vbndaa.isPermutationArgument (Vbndaa.toInts o) 52 = false then Vbndaa.fail st 1 else if Vbndaa.isPermutation (Vbndaa.toInts o).length (Vbndaa.toNats (Vbndaa.toInts o)) = false then Vbndaa.fail st 5 else Vbndaa.succeed st (Vbndaa.withLength (Vbndaa.inverse (Vbndaa.toNats (Vbndaa.toInts o)))) := rfl
  rw [e, perm_ok h1 h3, if_neg (by decide), ints_len, nats_ints]
theorem ord_18 {o : List Nat} (st : Vbndaa.State) (h1 : o.length ≤ 52) (h3 : ∀ x ∈ o, x ≤ 51) : Vbndaa.stepLists st (cl 18 [] [Vbndaa.toInts o]) = if Vbndaa.isPermutation o.length o = false then Vbndaa.fail st 5 else Vbndaa.succeed st (((Vbndaa.cycles o).length : Int) :: (Vbndaa.cycles o).flatMap Vbndaa.withLength) := by
  have e : Vbndaa.stepLists st (cl 18 [] [Vbndaa.toInts o]) = if Vbndaa.isPermutationArgument (Vbndaa.toInts o) 52 = false then Vbndaa.fail st 1 else if Vbndaa.isPermutation (Vbndaa.toInts o).length (Vbndaa.toNats (Vbndaa.toInts o)) = false then Vbndaa.fail st 5 else Vbndaa.succeed st (((Vbndaa.cycles (Vbndaa.toNats (Vbndaa.toInts o))).length : Int) :: (Vbndaa.cycles (Vbndaa.toNats (Vbndaa.toInts o))).flatMap Vbndaa.withLength) := rfl
  rw [e, perm_ok h1 h3, if_neg (by decide), ints_len, nats_ints]
theorem ord_19 {n j : Nat} (st : Vbndaa.State) (h1 : n ≤ 19) : Vbndaa.stepLists st (cl 19 [(n : Int), (j : Int)] []) = if decide (j < Vbndaa.factorial n) = false then Vbndaa.fail st 5 else Vbndaa.succeed st (Vbndaa.withLength (Vbndaa.unrank n j)) := by
  have e : Vbndaa.stepLists st (cl 19 [(n : Int), (j : Int)] []) = if (Vbndaa.inRange (n : Int) 0 19 && decide ((0 : Int) ≤ (j : Int))) = false then Vbndaa.fail st 1 else if (Vbndaa.factorial n : Int) ≤ (j : Int) then Vbndaa.fail st 5 else Vbndaa.succeed st (Vbndaa.withLength (Vbndaa.unrank n j)) := rfl
  have e1 : Vbndaa.inRange (n : Int) 0 19 = true := by
    show (decide ((0 : Int) ≤ n) && decide ((n : Int) ≤ 19)) = true
    rw [decide_eq_true (by omega), decide_eq_true (by omega)]
    rfl
  rw [e, e1, decide_eq_true (show (0 : Int) ≤ (j : Int) by omega), if_neg (by decide)]
  by_cases hc : j < Vbndaa.factorial n
  · rw [decide_eq_true hc, if_neg (by omega), if_neg (by decide)]
  · rw [decide_eq_false hc, if_pos (by omega), if_pos rfl]
theorem ord_20 {o : List Nat} (st : Vbndaa.State) (h1 : o.length ≤ 19) (h3 : ∀ x ∈ o, x ≤ 51) : Vbndaa.stepLists st (cl 20 [] [Vbndaa.toInts o]) = if Vbndaa.isPermutation o.length o = false then Vbndaa.fail st 5 else Vbndaa.succeed st [(Vbndaa.rankPermutation o : Int)] := by
  have e : Vbndaa.stepLists st (cl 20 [] [Vbndaa.toInts o]) = if Vbndaa.isPermutationArgument (Vbndaa.toInts o) 19 = false then Vbndaa.fail st 1 else if Vbndaa.isPermutation (Vbndaa.toInts o).length (Vbndaa.toNats (Vbndaa.toInts o)) = false then Vbndaa.fail st 5 else Vbndaa.succeed st [(Vbndaa.rankPermutation (Vbndaa.toNats (Vbndaa.toInts o)) : Int)] := rfl
  rw [e, perm_ok h1 h3, if_neg (by decide), ints_len, nats_ints]
section
variable {P : Program} {w : World} {K : PySem.W.Frag} {mg : Str → Option Value} {base : Heap}
abbrev N_fields_of_orders : List Str := ["call"]
theorem sc_fields_of_orders : FnScope N_fields_of_orders ["call"] (defScope s_fields_of_orders) := ⟨rfl, rfl, rfl, by decide +kernel, rfl, by decide +kernel, by decide +kernel⟩
theorem ok_fields_of_orders (c : Ctx K mg) : OkF P w K mg base (L2.CX P w) 6 "fields_of_orders" ["call"] ((fun vs H Q E => ∃ st a op ns rows, vs = [.ref a] ∧ CallAt H a ((op : Nat) : Int) ns rows ∧ Ask op ns rows ∧ inR op ns rows = true ∧ 16 ≤ op ∧ op ≤ 20 ∧ OQ Q E H st (cl op ns rows))) := by
  refine okF (f_fields_of_orders c) (g_fields_of_orders c) sc_fields_of_orders (fun _ _ _ _ _ _ us hl => match us, hl with | [_], _ => rfl) (fun vs H Q E h => by obtain ⟨st, a, op, ns, rows, rfl, ha, hk, hi, ho1, ho2, hQ⟩ := h; rfl) fun cdv A outer s H vs Q E hr h => ⟨_, (pss_cons (ps_if (pt_cmpR op_eq (pe_fldK (K := K) rfl (pv 0)) (pgi (i_COMPOSE c)) (nomark _)) (pss_one (ps_ret (pcall (ok_compose c) (hr.mono (by decide)) (passes_call (takes_of rfl rfl rfl rfl) (fun _ _ _ _ h => h)) (pa_cons (pe_ix (ix_listK (K := K) rfl) (pe_fldK (K := K) rfl (pv 0)) pe_int (fun _ _ => rfl)) (pa_cons (pe_ix (ix_listK (K := K) rfl) (pe_fldK (K := K) rfl (pv 0)) pe_int (fun _ _ => rfl)) pa_nil))))) pss_nil)
      (pss_cons (ps_if (pt_cmpR op_eq (pe_fldK (K := K) rfl (pv 0)) (pgi (i_INVERSE c)) (nomark _)) (pss_one (ps_ret (pcall (ok_inverse c) (hr.mono (by decide)) (passes_call (takes_of rfl rfl rfl rfl) (fun _ _ _ _ h => h)) (pa_cons (pe_ix (ix_listK (K := K) rfl) (pe_fldK (K := K) rfl (pv 0)) pe_int (fun _ _ => rfl)) pa_nil)))) pss_nil)
      (pss_cons (ps_if (pt_cmpR op_eq (pe_fldK (K := K) rfl (pv 0)) (pgi (i_CYCLES c)) (nomark _)) (pss_one (ps_ret (pcall (ok_cycles c) (hr.mono (by decide)) (passes_call (takes_of rfl rfl rfl rfl) (fun _ _ _ _ h => h)) (pa_cons (pe_ix (ix_listK (K := K) rfl) (pe_fldK (K := K) rfl (pv 0)) pe_int (fun _ _ => rfl)) pa_nil)))) pss_nil)
      (pss_cons (ps_if (pt_cmpR op_eq (pe_fldK (K := K) rfl (pv 0)) (pgi (i_UNRANK c)) (nomark _)) (pss_one (ps_ret (pcall (ok_unrank c) (hr.mono (by decide)) (passes_call (takes_of rfl rfl rfl rfl) (fun _ _ _ _ h => h)) (pa_cons (pe_ix (ix_listK (K := K) rfl) (pe_fldK (K := K) rfl (pv 0)) pe_int (fun _ _ => rfl)) (pa_cons (pe_ix (ix_listK (K := K) rfl) (pe_fldK (K := K) rfl (pv 0)) pe_int (fun _ _ => rfl)) pa_nil))))) pss_nil)
      (pss_one (ps_ret (pcall (ok_rank c) (hr.mono (by decide)) (passes_call (takes_of rfl rfl rfl rfl) (fun _ _ _ _ h => h)) (pa_cons (pe_ix (ix_listK (K := K) rfl) (pe_fldK (K := K) rfl (pv 0)) pe_int (fun _ _ => rfl)) pa_nil)))))))), ?_⟩
  obtain ⟨st, a, op, ns, rows, rfl, ha, hk, hi, ho1, ho2, hQ⟩ := h
  obtain ⟨dx, b, q, h1, h2, h3⟩ := ha
  obtain ⟨_, hn, hm, _⟩ := hk
  unfold inR at hi
  refine ⟨_, rfl, a, _, _, _, _, rfl, h1, cl_Call c, na_Call_operation c, rfl, rfl, _, rfl, ?_⟩
  have hop : op = 16 ∨ op = 17 ∨ op = 18 ∨ op = 19 ∨ op = 20 := by omega
  rcases hop with rfl | rfl | rfl | rfl | rfl
  · obtain rfl := len0 hn
    obtain ⟨r, s1, rfl⟩ := len2 hm
    have hi : (okL r 52 51 && (okL s1 52 51 && true)) = true := hi
    rw [Bool.and_true] at hi
    obtain ⟨x, y, tx, ty, g1, rfl, rfl, g2, g3, g4, g5, g6, g7⟩ := row2 (m := 52) (gr := 51) h3 hi
    refine ite2 (fun _ => ?_) (fun e => absurd (by decide) e)
    exact ⟨_, rfl, a, _, _, _, _, rfl, h1, cl_Call c, na_Call_rows c, rfl, q, _, (0 : Nat), _, rfl, rfl, SqL.of g1, atI_nat rfl, _, rfl, a, _, _, _, _, rfl, h1, cl_Call c, na_Call_rows c, rfl, q, _, (1 : Nat), _, rfl, rfl, SqL.of g1, atI_nat rfl, x, y, tx, ty, rfl, g2, g3, g4, g5, hQ.ord (ord_16 st g4 g5 g6 g7)⟩
  · obtain rfl := len0 hn
    obtain ⟨r, rfl⟩ := len1 hm
    have hi : (okL r 52 51 && true) = true := hi
    rw [Bool.and_true] at hi
    obtain ⟨x, tx, g1, rfl, g2, g4, g6⟩ := row1 (m := 52) (gr := 51) h3 hi
    refine ite2 (fun e => absurd e (by decide)) (fun _ => ⟨_, rfl, a, _, _, _, _, rfl, h1, cl_Call c, na_Call_operation c, rfl, rfl, _, rfl, ?_⟩)
    refine ite2 (fun _ => ?_) (fun e => absurd (by decide) e)
    exact ⟨_, rfl, a, _, _, _, _, rfl, h1, cl_Call c, na_Call_rows c, rfl, q, _, (0 : Nat), _, rfl, rfl, SqL.of g1, atI_nat rfl, x, tx, rfl, g2, g4, hQ.ord (ord_17 st g4 g6)⟩
  · obtain rfl := len0 hn
    obtain ⟨r, rfl⟩ := len1 hm
    have hi : (okL r 52 51 && true) = true := hi
    rw [Bool.and_true] at hi
    obtain ⟨x, tx, g1, rfl, g2, g4, g6⟩ := row1 (m := 52) (gr := 51) h3 hi
    refine ite2 (fun e => absurd e (by decide)) (fun _ => ⟨_, rfl, a, _, _, _, _, rfl, h1, cl_Call c, na_Call_operation c, rfl, rfl, _, rfl, ?_⟩)
    refine ite2 (fun e => absurd e (by decide)) (fun _ => ⟨_, rfl, a, _, _, _, _, rfl, h1, cl_Call c, na_Call_operation c, rfl, rfl, _, rfl, ?_⟩)
    refine ite2 (fun _ => ?_) (fun e => absurd (by decide) e)
    exact ⟨_, rfl, a, _, _, _, _, rfl, h1, cl_Call c, na_Call_rows c, rfl, q, _, (0 : Nat), _, rfl, rfl, SqL.of g1, atI_nat rfl, x, tx, rfl, g2, g4, hQ.ord (ord_18 st g4 g6)⟩
  · obtain ⟨x, y, rfl⟩ := len2 hn
    obtain rfl := len0 hm
    have hi : ((Vbndaa.inRange x 0 19 && (Vbndaa.inRange y 0 1000000000000000000 && true)) && true) = true := hi
    rw [Bool.and_true, Bool.and_true, Bool.and_eq_true] at hi
    obtain ⟨n, rfl, hn19⟩ := in_nat (b := 19) hi.1
    obtain ⟨j, rfl, _⟩ := in_nat (b := 1000000000000000000) hi.2
    refine ite2 (fun e => absurd e (by decide)) (fun _ => ⟨_, rfl, a, _, _, _, _, rfl, h1, cl_Call c, na_Call_operation c, rfl, rfl, _, rfl, ?_⟩)
    refine ite2 (fun e => absurd e (by decide)) (fun _ => ⟨_, rfl, a, _, _, _, _, rfl, h1, cl_Call c, na_Call_operation c, rfl, rfl, _, rfl, ?_⟩)
    refine ite2 (fun e => absurd e (by decide)) (fun _ => ⟨_, rfl, a, _, _, _, _, rfl, h1, cl_Call c, na_Call_operation c, rfl, rfl, _, rfl, ?_⟩)
    refine ite2 (fun _ => ?_) (fun e => absurd (by decide) e)
    exact ⟨_, rfl, a, _, _, _, _, rfl, h1, cl_Call c, na_Call_numbers c, rfl, b, _, (0 : Nat), _, rfl, rfl, SqL.of h2, atI_nat rfl, _, rfl, a, _, _, _, _, rfl, h1, cl_Call c, na_Call_numbers c, rfl, b, _, (1 : Nat), _, rfl, rfl, SqL.of h2, atI_nat rfl, n, j, rfl, hn19, hQ.ord (ord_19 st hn19)⟩
  · obtain rfl := len0 hn
    obtain ⟨r, rfl⟩ := len1 hm
    have hi : (okL r 19 51 && true) = true := hi
    rw [Bool.and_true] at hi
    obtain ⟨x, tx, g1, rfl, g2, g4, g6⟩ := row1 (m := 19) (gr := 51) h3 hi
    refine ite2 (fun e => absurd e (by decide)) (fun _ => ⟨_, rfl, a, _, _, _, _, rfl, h1, cl_Call c, na_Call_operation c, rfl, rfl, _, rfl, ?_⟩)
    refine ite2 (fun e => absurd e (by decide)) (fun _ => ⟨_, rfl, a, _, _, _, _, rfl, h1, cl_Call c, na_Call_operation c, rfl, rfl, _, rfl, ?_⟩)
    refine ite2 (fun e => absurd e (by decide)) (fun _ => ⟨_, rfl, a, _, _, _, _, rfl, h1, cl_Call c, na_Call_operation c, rfl, rfl, _, rfl, ?_⟩)
    refine ite2 (fun e => absurd e (by decide)) (fun _ => ?_)
    exact ⟨_, rfl, a, _, _, _, _, rfl, h1, cl_Call c, na_Call_rows c, rfl, q, _, (0 : Nat), _, rfl, rfl, SqL.of g1, atI_nat rfl, x, tx, rfl, g2, g4, hQ.ord (ord_20 st g4 g6)⟩
end

end VD
namespace VD
open PySem PySem.Spec PyProof.Rows L2
/-! ### the desk -/
abbrev deskO (dx : Addr) (v : V) : HO := .ins c_Desk dx [("play", v)]
/-- the desk at d, its state; ws: the lists that may be written -/
def Dk (H : Hp) (d : Addr) (ws : List Addr) (st : Vbndaa.State) (m : Nat) : Prop := ∃ (dx : Addr) (v : V), H d = some (deskO dx v) ∧ match st with
  | none => v = .non ∧ ws = []
  | some h => ∃ p t q l g o ac, v = .ref p ∧ ws = [l, g, o, ac] ∧ PlayAt H p t q l g o ac h ∧ Wh m h
theorem Dk.same {H H' : Hp} {d : Addr} {ws : List Addr} {st : Vbndaa.State} {m : Nat} (s : Same H H') (k : Dk H d ws st m) : Dk H' d ws st m := by
  obtain ⟨dx, v, h1, h2⟩ := k
  refine ⟨dx, v, s _ _ h1, ?_⟩
  cases st with
  | none => exact h2
  | some h =>
    obtain ⟨p, t, q, l, g, o, ac, e1, e2, hp, hw⟩ := h2
    exact ⟨p, t, q, l, g, o, ac, e1, e2, hp.same s, hw⟩
theorem Dk.up {H : Hp} {d : Addr} {ws : List Addr} {st : Vbndaa.State} {m m' : Nat} (k : Dk H d ws st m) (e : m ≤ m') : Dk H d ws st m' := by
  obtain ⟨dx, v, h1, h2⟩ := k
  refine ⟨dx, v, h1, ?_⟩
  cases st with
  | none => exact h2
  | some h =>
    obtain ⟨p, t, q, l, g, o, ac, e1, e2, hp, hw⟩ := h2
    exact ⟨p, t, q, l, g, o, ac, e1, e2, hp, hw.mono e⟩
theorem Dk.wh {H : Hp} {d : Addr} {ws : List Addr} {st : Vbndaa.State} {m : Nat} (k : Dk H d ws st m) : ∀ h, st = some h → Wh m h := by
  intro h e
  subst e
  obtain ⟨dx, v, h1, p, t, q, l, g, o, ac, e1, e2, hp, hw⟩ := k
  exact hw
/-- what may be written are lists -/
theorem Dk.lsts {H : Hp} {d : Addr} {ws : List Addr} {st : Vbndaa.State} {m : Nat} (k : Dk H d ws st m) : ∀ x ∈ ws, ∃ vs, H x = some (.lst vs) := by
  obtain ⟨dx, v, h1, h2⟩ := k
  cases st with
  | none =>
    obtain ⟨_, rfl⟩ := h2
    intro x hx
    cases hx
  | some h =>
    obtain ⟨p, t, q, l, g, o, ac, e1, rfl, hp, hw⟩ := h2
    obtain ⟨l0, l1, _⟩ := hp.lay
    obtain ⟨g0, g1, _⟩ := hp.grs
    obtain ⟨a0, a1, _⟩ := hp.act
    have o1 : H o = some _ := hp.own
    intro x hx
    simp only [List.mem_cons, List.not_mem_nil, or_false] at hx
    rcases hx with rfl | rfl | rfl | rfl
    · exact ⟨_, l1⟩
    · exact ⟨_, g1⟩
    · exact ⟨_, o1⟩
    · exact ⟨_, a1⟩
theorem Dk.off {H : Hp} {d : Addr} {ws : List Addr} {st : Vbndaa.State} {m : Nat} (k : Dk H d ws st m) : d ∉ ws := fun hd => by
  obtain ⟨vs, e⟩ := k.lsts d hd
  obtain ⟨dx, v, h1, _⟩ := k
  rw [e] at h1
  cases h1
/-- a call's fields, or its refusal; the desk behind it -/
def FQ (Q : VK) (E : XK) (H : Hp) (d : Addr) (ws : List Addr) (st : Vbndaa.State) (m : Nat) (c : List (List Int)) : Prop :=
  (∀ k : Nat, Vbndaa.stepLists st c = Vbndaa.fail st k → ∀ H', Same H H' → Rf E H' (-(k : Int))) ∧
  ∀ st' fs, Vbndaa.stepLists st c = (st', 0 :: fs) → ∀ f H' ws', But (d :: ws) H H' → H f = none → LI H' f fs → Dk H' d ws' st' (m + 1) → (∀ x ∈ ws', x ∈ ws ∨ H x = none) → Q (.ref f) H'
section
variable {Q : VK} {E : XK} {H H' : Hp} {d : Addr} {ws : List Addr} {st : Vbndaa.State} {m : Nat} {c : List (List Int)}
theorem FQ.same (s : Same H H') (q : FQ Q E H d ws st m c) : FQ Q E H' d ws st m c :=
  ⟨fun k e H2 s2 => q.1 k e H2 (s.trans s2), fun st' fs e f H2 ws' b hf hl hd hw => q.2 st' fs e f H2 ws' ((s.but _).trans b) (s.free hf) hl hd fun x hx => (hw x hx).imp id s.free⟩
theorem FQ.oq (q : FQ Q E H d ws st m c) (k : Dk H d ws st m) : OQ Q E H st c :=
  ⟨q.1, fun fs e f H' s hf hl => q.2 st fs e f H' ws (s.but _) hf hl ((k.same s).up (Nat.le_succ _)) fun x hx => .inl hx⟩
end
theorem moves {op : Nat} {ns : List Int} {rows : List (List Int)} (h : Ask op ns rows) {st st' : Vbndaa.State} {fs : List Int} (e : Vbndaa.stepLists st (cl op ns rows) = (st', 0 :: fs)) : ∃ k, Vbndaa.decodeCall (cl op ns rows) = some k ∧ Moves st k st' := by
  obtain ⟨k, hk⟩ := ask_cases h
  refine ⟨k, hk, ?_⟩
  have e2 : Vbndaa.stepLists st (cl op ns rows) = Vbndaa.step st k := by
    unfold Vbndaa.stepLists
    rw [hk]
  rw [e2] at e
  rcases step_shape st k with ⟨n, hn, e3⟩ | ⟨st2, fs2, e3, mv⟩
  · rw [e3] at e
    have e4 : -(n : Int) = 0 := (List.cons.inj (congrArg Prod.snd e)).1
    omega
  · rw [e3] at e
    have e4 : st2 = st' := congrArg Prod.fst e
    rw [← e4]
    exact mv
/-- an operation answers a refusal, or 0 and its fields -/
theorem answers2 {op : Nat} {ns : List Int} {rows : List (List Int)} (h : Ask op ns rows) (st : Vbndaa.State) : (∃ k, Vbndaa.stepLists st (cl op ns rows) = Vbndaa.fail st k) ∨ ∃ st' fs, Vbndaa.stepLists st (cl op ns rows) = (st', 0 :: fs) := by
  obtain ⟨k, hk⟩ := ask_cases h
  have e2 : Vbndaa.stepLists st (cl op ns rows) = Vbndaa.step st k := by
    unfold Vbndaa.stepLists
    rw [hk]
  rw [e2]
  rcases step_shape st k with ⟨n, hn, e3⟩ | ⟨st2, fs2, e3, mv⟩
  · exact .inl ⟨n, e3⟩
  · exact .inr ⟨st2, fs2, e3⟩
theorem FQ.dq {Q : VK} {E : XK} {H : Hp} {d dx p t q l g o ac : Addr} {h : Vbndaa.Session} {m op : Nat} {ns : List Int} {rows : List (List Int)} (hk : Ask op ns rows) (hop : op ≠ 0) (fq : FQ Q E H d [l, g, o, ac] (some h) m (cl op ns rows)) (hd : H d = some (deskO dx (.ref p))) (pl : PlayAt H p t q l g o ac h) (w : Wh m h) :
    DQ Q E H p t q l g o ac h (cl op ns rows) := by
  have k : Dk H d [l, g, o, ac] (some h) m := ⟨dx, _, hd, p, t, q, l, g, o, ac, rfl, rfl, pl, w⟩
  refine ⟨fq.1, fun h' fs e f H' b hf hl hp => ?_⟩
  obtain ⟨kc, hkc, mv⟩ := moves hk e
  have hw := wh_moves k.wh mv h' rfl
  exact fq.2 (some h') fs e f H' [l, g, o, ac] (b.mono fun x hx => .inl (List.mem_cons_of_mem _ hx)) hf hl ⟨dx, _, b _ _ hd k.off, p, t, q, l, g, o, ac, rfl, rfl, hp, hw⟩ fun x hx => .inl hx
/-- without a table: -2 -/
theorem no_table {op : Nat} {ns : List Int} {rows : List (List Int)} (h : Ask op ns rows) (b : inR op ns rows = true) (hop : 2 ≤ op ∧ op < 16 ∨ 21 ≤ op) : Vbndaa.stepLists none (cl op ns rows) = Vbndaa.fail none 2 := by
  obtain ⟨h0, h1, h2, h3⟩ := h
  unfold inR at b
  match op, h0, hop with
  | 0, _, e => exact absurd e (by omega)
  | 1, _, e => exact absurd e (by omega)
  | 2, _, _ => obtain rfl := len0 h1; obtain rfl := len0 h2; rfl
  | 3, _, _ =>
    obtain ⟨x, rfl⟩ := len1 h1; obtain rfl := len0 h2
    have b : ((Vbndaa.inRange x 0 51 && true) && true) = true := b
    rw [Bool.and_true, Bool.and_true] at b
    exact if_neg (c := Vbndaa.isPositionArgument x = false) (show ¬ (Vbndaa.inRange x 0 51) = false by rw [b]; decide)
  | 4, _, _ =>
    obtain rfl := len0 h1; obtain ⟨r, rfl⟩ := len1 h2
    have b : (okL r 60 255 && true) = true := b
    rw [Bool.and_true] at b
    exact if_neg (c := Vbndaa.isByteList r 60 = false) (by rw [okL_byte]; exact fun e => absurd (b.symm.trans e) (by decide))
  | 5, _, _ =>
    obtain rfl := len0 h1; obtain ⟨r, rfl⟩ := len1 h2
    have b : (okL r 400 255 && true) = true := b
    rw [Bool.and_true] at b
    exact if_neg (c := Vbndaa.isByteList r 400 = false) (by rw [okL_byte]; exact fun e => absurd (b.symm.trans e) (by decide))
  | 6, _, _ => obtain rfl := len0 h1; obtain rfl := len0 h2; rfl
  | 7, _, _ =>
    obtain rfl := len0 h1; obtain ⟨r, rfl⟩ := len1 h2
    have b : (okL r 3000 255 && true) = true := b
    rw [Bool.and_true] at b
    exact if_neg (c := Vbndaa.isByteList r 3000 = false) (by rw [okL_byte]; exact fun e => absurd (b.symm.trans e) (by decide))
  | 8, _, _ => obtain rfl := len0 h1; obtain rfl := len0 h2; rfl
  | 9, _, _ =>
    obtain ⟨x, rfl⟩ := len1 h1; obtain rfl := len0 h2
    have b : ((Vbndaa.inRange x 0 51 && true) && true) = true := b
    rw [Bool.and_true, Bool.and_true] at b
    exact if_neg (c := Vbndaa.isPositionArgument x = false) (show ¬ (Vbndaa.inRange x 0 51) = false by rw [b]; decide)
  | 10, _, _ =>
    obtain ⟨x, y, rfl⟩ := len2 h1; obtain rfl := len0 h2
    have b : ((Vbndaa.inRange x 0 5 && (Vbndaa.inRange y 0 51 && true)) && true) = true := b
    rw [Bool.and_true, Bool.and_true] at b
    exact if_neg (c := (Vbndaa.inRange x 0 5 && Vbndaa.isPositionArgument y) = false) (show ¬ ((Vbndaa.inRange x 0 5 && Vbndaa.inRange y 0 51)) = false by rw [b]; decide)
  | 11, _, _ =>
    obtain ⟨x, rfl⟩ := len1 h1; obtain rfl := len0 h2
    have b : ((Vbndaa.inRange x 0 63 && true) && true) = true := b
    rw [Bool.and_true, Bool.and_true] at b
    exact if_neg (c := Vbndaa.inRange x 0 63 = false) (show ¬ (Vbndaa.inRange x 0 63) = false by rw [b]; decide)
  | 12, _, _ =>
    obtain ⟨x, y, rfl⟩ := len2 h1; obtain rfl := len0 h2
    have b : ((Vbndaa.inRange x 0 63 && (Vbndaa.inRange y 0 5 && true)) && true) = true := b
    rw [Bool.and_true, Bool.and_true] at b
    exact if_neg (c := (Vbndaa.inRange x 0 63 && Vbndaa.inRange y 0 5) = false) (show ¬ ((Vbndaa.inRange x 0 63 && Vbndaa.inRange y 0 5)) = false by rw [b]; decide)
  | 13, _, _ =>
    obtain ⟨x, y, rfl⟩ := len2 h1; obtain rfl := len0 h2
    have b : ((Vbndaa.inRange x 0 63 && (Vbndaa.inRange y 0 5 && true)) && true) = true := b
    rw [Bool.and_true, Bool.and_true] at b
    exact if_neg (c := (Vbndaa.inRange x 0 63 && Vbndaa.inRange y 0 5) = false) (show ¬ ((Vbndaa.inRange x 0 63 && Vbndaa.inRange y 0 5)) = false by rw [b]; decide)
  | 14, _, _ =>
    obtain ⟨x, y, z, rfl⟩ := len3 h1; obtain rfl := len0 h2
    have b : ((Vbndaa.inRange x 0 63 && (Vbndaa.inRange y 0 5 && (Vbndaa.inRange z 0 51 && true))) && true) = true := b
    rw [Bool.and_true, Bool.and_true] at b
    exact if_neg (c := (Vbndaa.inRange x 0 63 && (Vbndaa.inRange y 0 5 && Vbndaa.isPositionArgument z)) = false) (show ¬ ((Vbndaa.inRange x 0 63 && (Vbndaa.inRange y 0 5 && Vbndaa.inRange z 0 51))) = false by rw [b]; decide)
  | 15, _, _ =>
    obtain ⟨x, y, z, v, rfl⟩ := len4 h1; obtain rfl := len0 h2
    have b : ((Vbndaa.inRange x 0 63 && (Vbndaa.inRange y 0 5 && (Vbndaa.inRange z 0 51 && (Vbndaa.inRange v 0 51 && true)))) && true) = true := b
    rw [Bool.and_true, Bool.and_true] at b
    exact if_neg (c := (Vbndaa.inRange x 0 63 && (Vbndaa.inRange y 0 5 && (Vbndaa.isPositionArgument z && Vbndaa.isPositionArgument v))) = false) (show ¬ ((Vbndaa.inRange x 0 63 && (Vbndaa.inRange y 0 5 && (Vbndaa.inRange z 0 51 && Vbndaa.inRange v 0 51)))) = false by rw [b]; decide)
  | 16, _, e => exact absurd e (by omega)
  | 17, _, e => exact absurd e (by omega)
  | 18, _, e => exact absurd e (by omega)
  | 19, _, e => exact absurd e (by omega)
  | 20, _, e => exact absurd e (by omega)
  | 21, _, _ => obtain rfl := len0 h1; obtain rfl := len0 h2; rfl
  | 22, _, _ =>
    obtain ⟨x, y, rfl⟩ := len2 h1; obtain rfl := len0 h2
    have b : ((Vbndaa.inRange x 0 5 && (Vbndaa.inRange y 0 51 && true)) && true) = true := b
    rw [Bool.and_true, Bool.and_true] at b
    exact if_neg (c := (Vbndaa.inRange x 0 5 && Vbndaa.isPositionArgument y) = false) (show ¬ ((Vbndaa.inRange x 0 5 && Vbndaa.inRange y 0 51)) = false by rw [b]; decide)
  | 23, _, _ => obtain rfl := len0 h1; obtain rfl := len0 h2; rfl
  | 24, _, _ => obtain rfl := len0 h1; obtain rfl := len0 h2; rfl
  | n + 25, e, _ => exact absurd e (by omega)
/-! ### the deeds -/
/-- a deed keeps its call's promise -/
def DeedFor (op : Nat) (sp : Sp) : Prop := ∀ (H : Hp) (Q : VK) (E : XK) (p t q l g o ac : Addr) (h : Vbndaa.Session) (m : Nat) (bn br : Addr) (ns : List Int) (rows : List (List Int)), PP H p t q l g o ac h m → m ≤ 5000 → LI H bn ns → LR H br rows → Ask op ns rows → inR op ns rows = true →
  DQ Q E H p t q l g o ac h (cl op ns rows) → sp [.ref p, .ref bn, .ref br] H Q E
def DL : List V := [.ref 687, .ref 694, .ref 701, .ref 708, .ref 715, .ref 722, .ref 729, .ref 736, .ref 743, .ref 750, .ref 757, .ref 764, .ref 771, .ref 778]
def LL : List V := [.ref 785, .ref 792, .ref 797, .ref 804]
section
variable {P : Program} {w : World} {K : PySem.W.Frag} {mg : Str → Option Value} {base : Heap}
theorem deed_at (c : Ctx K mg) {op : Nat} (ho : op < 25) (h : 2 ≤ op ∧ op < 16 ∨ 21 ≤ op) : ∃ f sp, (op < 16 → DL[op - 2]? = some (.ref f)) ∧ (16 ≤ op → LL[op - 21]? = some (.ref f)) ∧ HeldE P w K mg base (L2.CX P w) 10 f sp ∧ DeedFor op sp := by
  match op, ho, h with
  | 0, _, e => exact absurd e (by omega)
  | 1, _, e => exact absurd e (by omega)
  | 2, _, _ =>
    refine ⟨_, _, fun _ => rfl, fun e => absurd e (by decide), held_of (ok_print_table c) (g_print_table c) (by decide), fun H Q E p t q l g o ac h m bn br ns rows hp hm hb hr ha hi hQ => ?_⟩
    obtain ⟨_, h1, h2, _⟩ := ha
    unfold inR at hi
    obtain rfl := len0 h1
    obtain rfl := len0 h2
    exact ⟨p, t, q, l, g, o, ac, h, m, bn, br, rfl, hp, hQ⟩
  | 3, _, _ =>
    refine ⟨_, _, fun _ => rfl, fun e => absurd e (by decide), held_of (ok_card_info c) (g_card_info c) (by decide), fun H Q E p t q l g o ac h m bn br ns rows hp hm hb hr ha hi hQ => ?_⟩
    obtain ⟨_, h1, h2, _⟩ := ha
    unfold inR at hi
    obtain ⟨x, rfl⟩ := len1 h1
    obtain rfl := len0 h2
    have hi : ((Vbndaa.inRange x 0 51 && true) && true) = true := hi
    rw [Bool.and_true, Bool.and_true] at hi
    obtain ⟨n0, rfl, b0⟩ := in_nat (b := 51) hi
    exact ⟨p, t, q, l, g, o, ac, h, m, bn, br, n0, rfl, hp, hb, b0, hQ⟩
  | 4, _, _ =>
    refine ⟨_, _, fun _ => rfl, fun e => absurd e (by decide), held_of (ok_find_card c) (g_find_card c) (by decide), fun H Q E p t q l g o ac h m bn br ns rows hp hm hb hr ha hi hQ => ?_⟩
    obtain ⟨_, h1, h2, _⟩ := ha
    unfold inR at hi
    obtain rfl := len0 h1
    obtain ⟨r, rfl⟩ := len1 h2
    have hi : (okL r 60 255 && true) = true := hi
    rw [Bool.and_true] at hi
    obtain ⟨rb, tx, e1, rfl, e2, e3, e4⟩ := row1 (m := 60) (gr := 255) hr hi
    exact ⟨p, t, q, l, g, o, ac, h, m, bn, br, rb, tx, rfl, hp, e1, e2, e3, e4, hQ⟩
  | 5, _, _ =>
    refine ⟨_, _, fun _ => rfl, fun e => absurd e (by decide), held_of (ok_perform c) (g_perform c) (by decide), fun H Q E p t q l g o ac h m bn br ns rows hp hm hb hr ha hi hQ => ?_⟩
    obtain ⟨_, h1, h2, _⟩ := ha
    unfold inR at hi
    obtain rfl := len0 h1
    obtain ⟨r, rfl⟩ := len1 h2
    have hi : (okL r 400 255 && true) = true := hi
    rw [Bool.and_true] at hi
    obtain ⟨rb, tx, e1, rfl, e2, e3, e4⟩ := row1 (m := 400) (gr := 255) hr hi
    exact ⟨p, t, q, l, g, o, ac, h, m, bn, br, rb, tx, rfl, hp, e1, e2, e3, e4, hQ⟩
  | 6, _, _ =>
    refine ⟨_, _, fun _ => rfl, fun e => absurd e (by decide), held_of (ok_print_log c) (g_print_log c) (by decide), fun H Q E p t q l g o ac h m bn br ns rows hp hm hb hr ha hi hQ => ?_⟩
    obtain ⟨_, h1, h2, _⟩ := ha
    unfold inR at hi
    obtain rfl := len0 h1
    obtain rfl := len0 h2
    exact ⟨p, t, q, l, g, o, ac, h, m, bn, br, rfl, hp, hm, hQ⟩
  | 7, _, _ =>
    refine ⟨_, _, fun _ => rfl, fun e => absurd e (by decide), held_of (ok_validate_log c) (g_validate_log c) (by decide), fun H Q E p t q l g o ac h m bn br ns rows hp hm hb hr ha hi hQ => ?_⟩
    obtain ⟨_, h1, h2, _⟩ := ha
    unfold inR at hi
    obtain rfl := len0 h1
    obtain ⟨r, rfl⟩ := len1 h2
    have hi : (okL r 3000 255 && true) = true := hi
    rw [Bool.and_true] at hi
    obtain ⟨rb, tx, e1, rfl, e2, e3, e4⟩ := row1 (m := 3000) (gr := 255) hr hi
    exact ⟨p, t, q, l, g, o, ac, h, m, bn, br, rb, tx, rfl, hp, e1, e2, e3, e4, hQ⟩
  | 8, _, _ =>
    refine ⟨_, _, fun _ => rfl, fun e => absurd e (by decide), held_of (ok_deal c) (g_deal c) (by decide), fun H Q E p t q l g o ac h m bn br ns rows hp hm hb hr ha hi hQ => ?_⟩
    obtain ⟨_, h1, h2, _⟩ := ha
    unfold inR at hi
    obtain rfl := len0 h1
    obtain rfl := len0 h2
    exact ⟨p, t, q, l, g, o, ac, h, m, bn, br, rfl, hp, hQ⟩
  | 9, _, _ =>
    refine ⟨_, _, fun _ => rfl, fun e => absurd e (by decide), held_of (ok_trace c) (g_trace c) (by decide), fun H Q E p t q l g o ac h m bn br ns rows hp hm hb hr ha hi hQ => ?_⟩
    obtain ⟨_, h1, h2, _⟩ := ha
    unfold inR at hi
    obtain ⟨x, rfl⟩ := len1 h1
    obtain rfl := len0 h2
    have hi : ((Vbndaa.inRange x 0 51 && true) && true) = true := hi
    rw [Bool.and_true, Bool.and_true] at hi
    obtain ⟨n0, rfl, b0⟩ := in_nat (b := 51) hi
    exact ⟨p, t, q, l, g, o, ac, h, m, bn, br, n0, rfl, hp, hb, b0, hQ⟩
  | 10, _, _ =>
    refine ⟨_, _, fun _ => rfl, fun e => absurd e (by decide), held_of (ok_tell_can_see c) (g_tell_can_see c) (by decide), fun H Q E p t q l g o ac h m bn br ns rows hp hm hb hr ha hi hQ => ?_⟩
    obtain ⟨_, h1, h2, _⟩ := ha
    unfold inR at hi
    obtain ⟨x, y, rfl⟩ := len2 h1
    obtain rfl := len0 h2
    have hi : ((Vbndaa.inRange x 0 5 && (Vbndaa.inRange y 0 51 && true)) && true) = true := hi
    rw [Bool.and_true, Bool.and_true] at hi
    simp only [Bool.and_eq_true] at hi
    obtain ⟨j0, j1⟩ := hi
    obtain ⟨n0, rfl, b0⟩ := in_nat (b := 5) j0
    obtain ⟨n1, rfl, b1⟩ := in_nat (b := 51) j1
    exact ⟨p, t, q, l, g, o, ac, h, m, bn, br, n0, n1, rfl, hp, hb, b0, b1, hQ⟩
  | 11, _, _ =>
    refine ⟨_, _, fun _ => rfl, fun e => absurd e (by decide), held_of (ok_positions_seen c) (g_positions_seen c) (by decide), fun H Q E p t q l g o ac h m bn br ns rows hp hm hb hr ha hi hQ => ?_⟩
    obtain ⟨_, h1, h2, _⟩ := ha
    unfold inR at hi
    obtain ⟨x, rfl⟩ := len1 h1
    obtain rfl := len0 h2
    have hi : ((Vbndaa.inRange x 0 63 && true) && true) = true := hi
    rw [Bool.and_true, Bool.and_true] at hi
    obtain ⟨n0, rfl, b0⟩ := in_nat (b := 63) hi
    exact ⟨p, t, q, l, g, o, ac, h, m, bn, br, n0, rfl, hp, hb, b0, hQ⟩
  | 12, _, _ =>
    refine ⟨_, _, fun _ => rfl, fun e => absurd e (by decide), held_of (ok_tell_known_entries c) (g_tell_known_entries c) (by decide), fun H Q E p t q l g o ac h m bn br ns rows hp hm hb hr ha hi hQ => ?_⟩
    obtain ⟨_, h1, h2, _⟩ := ha
    unfold inR at hi
    obtain ⟨x, y, rfl⟩ := len2 h1
    obtain rfl := len0 h2
    have hi : ((Vbndaa.inRange x 0 63 && (Vbndaa.inRange y 0 5 && true)) && true) = true := hi
    rw [Bool.and_true, Bool.and_true] at hi
    simp only [Bool.and_eq_true] at hi
    obtain ⟨j0, j1⟩ := hi
    obtain ⟨n0, rfl, b0⟩ := in_nat (b := 63) j0
    obtain ⟨n1, rfl, b1⟩ := in_nat (b := 5) j1
    exact ⟨p, t, q, l, g, o, ac, h, m, bn, br, n0, n1, rfl, hp, hb, b0, b1, hQ⟩
  | 13, _, _ =>
    refine ⟨_, _, fun _ => rfl, fun e => absurd e (by decide), held_of (ok_open_entry_count c) (g_open_entry_count c) (by decide), fun H Q E p t q l g o ac h m bn br ns rows hp hm hb hr ha hi hQ => ?_⟩
    obtain ⟨_, h1, h2, _⟩ := ha
    unfold inR at hi
    obtain ⟨x, y, rfl⟩ := len2 h1
    obtain rfl := len0 h2
    have hi : ((Vbndaa.inRange x 0 63 && (Vbndaa.inRange y 0 5 && true)) && true) = true := hi
    rw [Bool.and_true, Bool.and_true] at hi
    simp only [Bool.and_eq_true] at hi
    obtain ⟨j0, j1⟩ := hi
    obtain ⟨n0, rfl, b0⟩ := in_nat (b := 63) j0
    obtain ⟨n1, rfl, b1⟩ := in_nat (b := 5) j1
    exact ⟨p, t, q, l, g, o, ac, h, m, bn, br, n0, n1, rfl, hp, hb, b0, b1, hQ⟩
  | 14, _, _ =>
    refine ⟨_, _, fun _ => rfl, fun e => absurd e (by decide), held_of (ok_tell_possible_cards c) (g_tell_possible_cards c) (by decide), fun H Q E p t q l g o ac h m bn br ns rows hp hm hb hr ha hi hQ => ?_⟩
    obtain ⟨_, h1, h2, _⟩ := ha
    unfold inR at hi
    obtain ⟨x, y, z, rfl⟩ := len3 h1
    obtain rfl := len0 h2
    have hi : ((Vbndaa.inRange x 0 63 && (Vbndaa.inRange y 0 5 && (Vbndaa.inRange z 0 51 && true))) && true) = true := hi
    rw [Bool.and_true, Bool.and_true] at hi
    simp only [Bool.and_eq_true] at hi
    obtain ⟨j0, j1, j2⟩ := hi
    obtain ⟨n0, rfl, b0⟩ := in_nat (b := 63) j0
    obtain ⟨n1, rfl, b1⟩ := in_nat (b := 5) j1
    obtain ⟨n2, rfl, b2⟩ := in_nat (b := 51) j2
    exact ⟨p, t, q, l, g, o, ac, h, m, bn, br, n0, n1, n2, rfl, hp, hb, b0, b1, b2, hQ⟩
  | 15, _, _ =>
    refine ⟨_, _, fun _ => rfl, fun e => absurd e (by decide), held_of (ok_card_probability c) (g_card_probability c) (by decide), fun H Q E p t q l g o ac h m bn br ns rows hp hm hb hr ha hi hQ => ?_⟩
    obtain ⟨_, h1, h2, _⟩ := ha
    unfold inR at hi
    obtain ⟨x, y, z, v, rfl⟩ := len4 h1
    obtain rfl := len0 h2
    have hi : ((Vbndaa.inRange x 0 63 && (Vbndaa.inRange y 0 5 && (Vbndaa.inRange z 0 51 && (Vbndaa.inRange v 0 51 && true)))) && true) = true := hi
    rw [Bool.and_true, Bool.and_true] at hi
    simp only [Bool.and_eq_true] at hi
    obtain ⟨j0, j1, j2, j3⟩ := hi
    obtain ⟨n0, rfl, b0⟩ := in_nat (b := 63) j0
    obtain ⟨n1, rfl, b1⟩ := in_nat (b := 5) j1
    obtain ⟨n2, rfl, b2⟩ := in_nat (b := 51) j2
    obtain ⟨n3, rfl, b3⟩ := in_nat (b := 51) j3
    exact ⟨p, t, q, l, g, o, ac, h, m, bn, br, n0, n1, n2, n3, rfl, hp, hb, b0, b1, b2, b3, hQ⟩
  | 16, _, e => exact absurd e (by omega)
  | 17, _, e => exact absurd e (by omega)
  | 18, _, e => exact absurd e (by omega)
  | 19, _, e => exact absurd e (by omega)
  | 20, _, e => exact absurd e (by omega)
  | 21, _, _ =>
    refine ⟨_, _, fun e => absurd e (by decide), fun _ => rfl, held_of (ok_tell_owners c) (g_tell_owners c) (by decide), fun H Q E p t q l g o ac h m bn br ns rows hp hm hb hr ha hi hQ => ?_⟩
    obtain ⟨_, h1, h2, _⟩ := ha
    unfold inR at hi
    obtain rfl := len0 h1
    obtain rfl := len0 h2
    exact ⟨p, t, q, l, g, o, ac, h, m, bn, br, rfl, hp, hQ⟩
  | 22, _, _ =>
    refine ⟨_, _, fun e => absurd e (by decide), fun _ => rfl, held_of (ok_tell_missing_grants c) (g_tell_missing_grants c) (by decide), fun H Q E p t q l g o ac h m bn br ns rows hp hm hb hr ha hi hQ => ?_⟩
    obtain ⟨_, h1, h2, _⟩ := ha
    unfold inR at hi
    obtain ⟨x, y, rfl⟩ := len2 h1
    obtain rfl := len0 h2
    have hi : ((Vbndaa.inRange x 0 5 && (Vbndaa.inRange y 0 51 && true)) && true) = true := hi
    rw [Bool.and_true, Bool.and_true] at hi
    simp only [Bool.and_eq_true] at hi
    obtain ⟨j0, j1⟩ := hi
    obtain ⟨n0, rfl, b0⟩ := in_nat (b := 5) j0
    obtain ⟨n1, rfl, b1⟩ := in_nat (b := 51) j1
    exact ⟨p, t, q, l, g, o, ac, h, m, bn, br, n0, n1, rfl, hp, hb, b0, b1, hQ⟩
  | 23, _, _ =>
    refine ⟨_, _, fun e => absurd e (by decide), fun _ => rfl, held_of (ok_summary c) (g_summary c) (by decide), fun H Q E p t q l g o ac h m bn br ns rows hp hm hb hr ha hi hQ => ?_⟩
    obtain ⟨_, h1, h2, _⟩ := ha
    unfold inR at hi
    obtain rfl := len0 h1
    obtain rfl := len0 h2
    exact ⟨p, t, q, l, g, o, ac, h, m, bn, br, rfl, hp, hQ⟩
  | 24, _, _ =>
    refine ⟨_, _, fun e => absurd e (by decide), fun _ => rfl, held_of (ok_verify_log c) (g_verify_log c) (by decide), fun H Q E p t q l g o ac h m bn br ns rows hp hm hb hr ha hi hQ => ?_⟩
    obtain ⟨_, h1, h2, _⟩ := ha
    unfold inR at hi
    obtain rfl := len0 h1
    obtain rfl := len0 h2
    exact ⟨p, t, q, l, g, o, ac, h, m, bn, br, rfl, hp, hQ⟩
  | n + 25, e, _ => exact absurd e (by omega)
end
end VD
namespace VD
open PySem PySem.Spec PyProof.Rows L2
section
variable {P : Program} {w : World} {K : PySem.W.Frag} {mg : Str → Option Value} {base : Heap}
abbrev N_Desk_init : List Str := ["self"]
theorem sc_Desk_init : FnScope N_Desk_init ["self"] (defScope s_Desk_init) := ⟨rfl, rfl, rfl, by decide +kernel, rfl, by decide +kernel, by decide +kernel⟩
theorem ok_Desk_init (c : Ctx K mg) : OkC P w K mg base (L2.CX P w) 1 "Desk" c_Desk ["self"] ((fun vs H Q _ => ∃ d dx, vs = [.ref d] ∧ H d = some (.ins c_Desk dx []) ∧ ∀ H', But [d] H H' → H' d = some (deskO dx .non) → Q .non H')) := by
  refine okC (f_Desk_init c) (mk_Desk c) (g_Desk c) sc_Desk_init (fun _ _ _ _ _ _ us hl => match us, hl with | [_], _ => rfl) (fun vs H Q E h => by obtain ⟨d, dx, rfl, hd, k⟩ := h; rfl) fun cdv A outer s H vs Q E hr h => ⟨_, (pss_one (ps_fld (pv 0) pe_non rfl)), ?_⟩
  obtain ⟨d, dx, rfl, hd, k⟩ := h
  refine ⟨_, rfl, d, _, _, _, rfl, hd, cl_Desk c, na_Desk_play c, by show 0 < 1000; decide, ?_⟩
  exact k _ (((Same.refl H).but [d]).put (by simp)) upd_same
abbrev N_Desk_at_table : List Str := ["self", "call", "deed"]
theorem sc_Desk_at_table : FnScope N_Desk_at_table ["self", "call"] (defScope s_Desk_at_table) := ⟨rfl, rfl, rfl, by decide +kernel, rfl, by decide +kernel, by decide +kernel⟩
theorem ok_Desk_at_table (c : Ctx K mg) : OkM P w K mg base (L2.CX P w) 11 c_Desk "at_table" ["self", "call"] ((fun vs H Q E => ∃ d ws st m a op ns rows, vs = [.ref d, .ref a] ∧ Dk H d ws st m ∧ m ≤ 5000 ∧ CallAt H a ((op : Nat) : Int) ns rows ∧ Ask op ns rows ∧ inR op ns rows = true ∧ (2 ≤ op ∧ op < 16 ∨ 21 ≤ op) ∧ FQ Q E H d ws st m (cl op ns rows))) := by
  refine okM (f_Desk_at_table c) (me_Desk_at_table c) (cl_Desk c) sc_Desk_at_table (fun _ _ _ _ _ _ us hl => match us, hl with | [_, _], _ => rfl) (fun vs H Q E h => by obtain ⟨d, ws, st, m, a, op, ns, rows, rfl, hd, hm, ha, hk, hi, hop, hQ⟩ := h; rfl) fun cdv A outer s H vs Q E hr h => ⟨_, (pss_cons (ps_expr (pcall (ok_need c) (hr.mono (by decide)) (passes_call (takes_of rfl rfl rfl rfl) (fun _ _ _ _ h => h)) (pa_cons (pe_cmpR op_notN (pe_fldK (K := K) rfl (pv 0)) pe_non (nomark _)) (pa_cons (pgi (i_NO_TABLE c)) pa_nil))))
      (pss_cons (ps_if (pt_cmpR op_lt (pe_fldK (K := K) rfl (pv 1)) (pgi (i_COMPOSE c)) (nomark _)) (pss_one (ps_set (i := 2) sc_Desk_at_table.nd rfl (Or.inl rfl) (pe_ix (ix_tupK (K := K) rfl) (pgr (g_DEEDS c)) (pe_op op_sub (pe_fldK (K := K) rfl (pv 1)) (pgi (i_FIRST_OF_TABLE c))) (fun _ _ => rfl)))) (pss_one (ps_set (i := 2) sc_Desk_at_table.nd rfl (Or.inl rfl) (pe_ix (ix_tupK (K := K) rfl) (pgr (g_LATER_DEEDS c)) (pe_op op_sub (pe_fldK (K := K) rfl (pv 1)) (pgi (i_FIRST_BEHIND c))) (fun _ _ => rfl)))))
      (pss_one (ps_ret (pcallD (CX := L2.CX P w) (k := 10) 2 (hr.mono (by decide)) rfl (Or.inl rfl) (passes_call (takes_of rfl rfl rfl rfl) (fun _ _ _ _ h => h)) (pa_cons (pe_fldK (K := K) rfl (pv 0)) (pa_cons (pe_fldK (K := K) rfl (pv 1)) (pa_cons (pe_fldK (K := K) rfl (pv 1)) pa_nil)))))))), ?_⟩
  obtain ⟨d, ws, st, m, a, op, ns, rows, rfl, hd, hm, ha, hk, hi, hop, hQ⟩ := h
  obtain ⟨dx, v, d1, d2⟩ := hd
  obtain ⟨dxc, b, q, h1, h2, h3⟩ := ha
  refine ⟨_, rfl, d, _, _, _, _, rfl, d1, cl_Desk c, na_Desk_play c, rfl, rfl, _, _, rfl, fun e => ?_, fun e => ?_⟩
  · cases st with
    | none =>
      obtain ⟨rfl, rfl⟩ := d2
      exact absurd e (by decide)
    | some h =>
      obtain ⟨p, t, qq, l, g, o, ac, rfl, rfl, pl, hw⟩ := d2
      have pp : PP H p t qq l g o ac h m := ⟨pl, hw, by omega⟩
      have dq := hQ.dq hk (by omega) d1 pl hw
      obtain ⟨f, sp, i1, i2, hh, hdf⟩ := deed_at (P := P) (w := w) (base := base) c hk.lt hop
      have hsp := hdf H Q E p t qq l g o ac h m b q ns rows pp hm h2 h3 hk hi dq
      refine ⟨_, rfl, a, _, _, _, _, rfl, h1, cl_Call c, na_Call_operation c, rfl, _, _, rfl, rfl, _, rfl, ite2 (fun e => ?_) (fun e => ?_)⟩
      · have e := of_decide_eq_true e
        have e : op < 16 := by omega
        refine ⟨_, rfl, a, _, _, _, _, rfl, h1, cl_Call c, na_Call_operation c, rfl, _, _, rfl, rfl, t_DEEDS, _, _, _, rfl, rfl, tp_857 c H, by rw [show ((op : Nat) : Int) - 2 = ((op - 2 : Nat) : Int) by omega]; exact atI_nat (i1 e), ?_⟩
        exact ⟨f, sp, rfl, hh, _, rfl, d, _, _, _, _, rfl, d1, cl_Desk c, na_Desk_play c, rfl, _, rfl, a, _, _, _, _, rfl, h1, cl_Call c, na_Call_numbers c, rfl, _, rfl, a, _, _, _, _, rfl, h1, cl_Call c, na_Call_rows c, rfl, hsp⟩
      · have e : ¬ ((op : Nat) : Int) < 16 := fun z => e (decide_eq_true z)
        have e : 21 ≤ op := by omega
        refine ⟨_, rfl, a, _, _, _, _, rfl, h1, cl_Call c, na_Call_operation c, rfl, _, _, rfl, rfl, t_LATER_DEEDS, _, _, _, rfl, rfl, tp_858 c H, by rw [show ((op : Nat) : Int) - 21 = ((op - 21 : Nat) : Int) by omega]; exact atI_nat (i2 (by omega)), ?_⟩
        exact ⟨f, sp, rfl, hh, _, rfl, d, _, _, _, _, rfl, d1, cl_Desk c, na_Desk_play c, rfl, _, rfl, a, _, _, _, _, rfl, h1, cl_Call c, na_Call_numbers c, rfl, _, rfl, a, _, _, _, _, rfl, h1, cl_Call c, na_Call_rows c, rfl, hsp⟩
  · cases st with
    | none => exact hQ.1 2 (no_table hk hi hop) H (Same.refl _)
    | some h =>
      obtain ⟨p, t, qq, l, g, o, ac, rfl, rfl, pl, hw⟩ := d2
      exact absurd e (by intro e; cases e)
end

end VD
namespace VD
open PySem PySem.Spec PyProof.Rows L2
/-! ### the desk's object may be written: nobody else leans on it -/
def Good (u : HO) : Prop := (∀ dx fs, u ≠ .ins c_Desk dx fs) ∧ ∀ o z, u ≠ .frz o z
def Sim (H H' : Hp) : Prop := ∀ b u, H b = some u → Good u → H' b = some u
theorem Sim.drp {H H' : Hp} (s : Sim H H') (ms : List Addr) : Sim (drp H ms) (drp H' ms) := fun b u h n => by
  obtain ⟨h1, h2⟩ := drp_of h
  exact drp_at (s b u h1 n) h2
theorem nd_lst (xs : List V) : Good (HO.lst xs) := ⟨fun _ _ e => (by cases e), fun _ _ e => (by cases e)⟩
theorem nd_tup (xs : List V) : Good (HO.tup xs) := ⟨fun _ _ e => (by cases e), fun _ _ e => (by cases e)⟩
theorem nd_ins {C dx0 : Addr} {fs0 : List (Str × V)} (h : C ≠ c_Desk) : Good (HO.ins C dx0 fs0) := by
  refine ⟨fun _ _ e => ?_, fun _ _ e => by cases e⟩
  injection e with e1
  exact h e1
theorem LW.sim {H H' : Hp} (s : Sim H H') {a : Addr} {ws : List (List Nat)} (h : LW H a ws) : LW H' a ws := by
  obtain ⟨as, h1, h2⟩ := h
  exact ⟨as, s _ _ h1 (nd_lst _), Paired.mono (fun b w hb => s _ _ hb (nd_lst _)) h2⟩
theorem TbW.sim {H H' : Hp} (s : Sim H H') {t q : Addr} {z : Vbndaa.Table} (h : TbW H t q z) : TbW H' t q z := by
  obtain ⟨w, n, dx, h1, as, h2, h3⟩ := h
  exact ⟨w, n, dx, s _ _ h1 (nd_ins (by decide)), as, s _ _ h2 (nd_lst _), Paired.mono (fun a ws h => LW.sim (s.drp _) h) h3⟩
theorem RLay.sim {H H' : Hp} (s : Sim H H') {v : V} {e : Option (List Nat)} (h : RLay H v e) : RLay H' v e := by
  cases e with
  | none => exact h
  | some w =>
    obtain ⟨a, h1, h2⟩ := h
    exact ⟨a, h1, s _ _ h2 (nd_lst _)⟩
theorem RGr.sim {H H' : Hp} (s : Sim H H') {v : V} {x : Vbndaa.Grant} (h : RGr H v x) : RGr H' v x := by
  obtain ⟨T, h1, h2⟩ := h
  exact ⟨T, h1, s _ _ h2 (nd_tup _)⟩
theorem RAct.sim {H H' : Hp} (s : Sim H H') {v : V} {x : Vbndaa.Action} (h : RAct H v x) : RAct H' v x := by
  obtain ⟨a, h1, dx, b, h2, h3⟩ := h
  exact ⟨a, h1, dx, b, s _ _ h2 (nd_ins (by decide)), s _ _ h3 (nd_lst _)⟩
theorem PlayAt.sim {H H' : Hp} (s : Sim H H') {p t q l g o ac : Addr} {h : Vbndaa.Session} (x : PlayAt H p t q l g o ac h) : PlayAt H' p t q l g o ac h := by
  have d := s.drp [l, g, o, ac]
  obtain ⟨dx, h1⟩ := x.at_
  obtain ⟨v1, h2, h3⟩ := x.lay
  obtain ⟨v2, h4, h5⟩ := x.grs
  obtain ⟨v3, h6, h7⟩ := x.act
  exact ⟨x.nd, ⟨dx, d _ _ h1 (nd_ins (by decide))⟩, x.tab.sim d, ⟨v1, s _ _ h2 (nd_lst _), Paired.mono (fun v e => RLay.sim d) h3⟩, ⟨v2, s _ _ h4 (nd_lst _), Paired.mono (fun v e => RGr.sim d) h5⟩, s _ _ x.own (nd_lst _), ⟨v3, s _ _ h6 (nd_lst _), Paired.mono (fun v e => RAct.sim d) h7⟩⟩
theorem sim_desk {H : Hp} {d dx : Addr} {v : V} {u : HO} (h : H d = some (deskO dx v)) : Sim H (upd H d u) := fun b o e n => by
  by_cases c : b = d
  · subst c
    rw [h] at e
    cases e
    exact absurd rfl (n.1 _ _)
  · exact (upd_ne c).trans e
/-- what is locked is no part of the desk -/
theorem Dk.locked {H : Hp} {d ff : Addr} {ws : List Addr} {st : Vbndaa.State} {m : Nat} {o : Obj} {z : HO} (k : Dk H d ws st m) (hf : H ff = some (.frz o z)) : Dk (drp H [ff]) d ws st m := by
  obtain ⟨dx, v, h1, h2⟩ := k
  have hd : d ≠ ff := fun e => by
    rw [e, hf] at h1
    cases h1
  have s : Sim H (drp H [ff]) := fun b u e g => drp_at e fun hm => by
    obtain rfl : b = ff := by simpa using hm
    rw [hf] at e
    cases e
    exact g.2 _ _ rfl
  refine ⟨dx, v, drp_at h1 (by simpa using hd), ?_⟩
  cases st with
  | none => exact h2
  | some h =>
    obtain ⟨p, t, q, l, g, o, ac, e1, e2, hp, hw⟩ := h2
    exact ⟨p, t, q, l, g, o, ac, e1, e2, hp.sim s, hw⟩
theorem byte_ok {tx : List Nat} {m : Nat} (h1 : tx.length ≤ m) (h2 : ∀ x ∈ tx, x ≤ 255) : Vbndaa.isByteList (Vbndaa.toInts tx) m = true := by
  rw [okL_byte]
  exact okL_of (gr := 255) h1 h2
theorem st_1 {tx : List Nat} (st : Vbndaa.State) (h1 : tx.length ≤ 2000) (h2 : ∀ x ∈ tx, x ≤ 255) : Vbndaa.stepLists st (cl 1 [] [Vbndaa.toInts tx]) = match rdTable tx with
    | .error e => Vbndaa.succeed st (Vbndaa.toInts [1, e.1, e.2])
    | .ok z => Vbndaa.succeed st (Vbndaa.toInts [0, Vbndaa.cardCount z, z.players.length]) := by
  have e : Vbndaa.stepLists st (cl 1 [] [Vbndaa.toInts tx]) = if Vbndaa.isByteList (Vbndaa.toInts tx) 2000 = false then Vbndaa.fail st 1 else match Vbndaa.parseTable (Vbndaa.toNats (Vbndaa.toInts tx)) with
    | .error e => Vbndaa.succeed st (Vbndaa.toInts [1, e.code, e.offset])
    | .ok z => Vbndaa.succeed st (Vbndaa.toInts [0, Vbndaa.cardCount z, z.players.length]) := rfl
  rw [e, byte_ok h1 h2, if_neg (by decide), nats_ints, parse_table_eq]
  cases rdTable tx <;> rfl
theorem st_0 {tx : List Nat} (st : Vbndaa.State) (h1 : tx.length ≤ 2000) (h2 : ∀ x ∈ tx, x ≤ 255) : Vbndaa.stepLists st (cl 0 [] [Vbndaa.toInts tx]) = match rdTable tx with
    | .error _ => Vbndaa.fail st 3
    | .ok z => (some (newS z), 0 :: Vbndaa.toInts [Vbndaa.cardCount z, z.players.length]) := by
  have e : Vbndaa.stepLists st (cl 0 [] [Vbndaa.toInts tx]) = if Vbndaa.isByteList (Vbndaa.toInts tx) 2000 = false then Vbndaa.fail st 1 else match Vbndaa.parseTable (Vbndaa.toNats (Vbndaa.toInts tx)) with
    | .error _ => Vbndaa.fail st 3
    | .ok z => (some (newS z), 0 :: Vbndaa.toInts [Vbndaa.cardCount z, z.players.length]) := rfl
  rw [e, byte_ok h1 h2, if_neg (by decide), nats_ints, parse_table_eq]
  cases rdTable tx <;> rfl
section
variable {P : Program} {w : World} {K : PySem.W.Frag} {mg : Str → Option Value} {base : Heap}
abbrev N_check_table : List Str := ["text", "table", "fault"]
theorem sc_check_table : FnScope N_check_table ["text"] (defScope s_check_table) := ⟨rfl, rfl, rfl, by decide +kernel, rfl, by decide +kernel, by decide +kernel⟩
theorem ok_check_table (c : Ctx K mg) : OkF P w K mg base (L2.CX P w) 7 "check_table" ["text"] ((fun vs H Q E => ∃ st a tx, vs = [.ref a] ∧ LN H a tx ∧ tx.length ≤ 2000 ∧ (∀ x ∈ tx, x ≤ 255) ∧ (∀ fs, Vbndaa.stepLists st (cl 1 [] [Vbndaa.toInts tx]) = (st, 0 :: fs) → ∀ f H', Same H H' → H f = none → LI H' f fs → Q (.ref f) H'))) := by
  refine okF (f_check_table c) (g_check_table c) sc_check_table (fun _ _ _ _ _ _ us hl => match us, hl with | [_], _ => rfl) (fun vs H Q E h => by obtain ⟨st, a, tx, rfl, ha, hl, hb, hQ⟩ := h; rfl) fun cdv A outer s H vs Q E hr h => ⟨_, (pss_cons (ps_try_as (Wout := fun _ _ _ _ => False) (i := 2) rfl rfl sc_check_table.nd rfl rfl ⟨rfl, by decide, .inl (g_TableFault c)⟩ takes0 (fun W pn xe tk _ => pss_one (ps_set (i := 1) sc_check_table.nd rfl (Or.inl rfl) (pcallS (ok_read_table c) (hr.mono (by decide)) (fun σ => passAtM tk σ) (pa_cons (pv 0) pa_nil)))) (fun a oe cls d pn hz hf => pss_one (ps_ret (pe_lst (pa_cons pe_int (pa_cons (pe_xf (er_TableFault c).xf ((er_TableFault c).no _ (by decide)) hz hf (pv 2)) (pa_cons (pe_xf (er_TableFault c).xf ((er_TableFault c).no _ (by decide)) hz hf (pv 2)) pa_nil))))))) (pss_one (ps_ret (pe_lst (pa_cons pe_int (pa_cons (pmeth0 (E := E0) (ok_Table_card_count c) (pv 1) (hr.mono (by decide)) passL) (pa_cons (pmeth0 (E := E0) (ok_Table_player_count c) (pv 1) (hr.mono (by decide)) passL) pa_nil))))))), ?_⟩
  obtain ⟨st, a, tx, rfl, ha, hl, hb, hQ⟩ := h
  have hst := st_1 st hl hb
  refine ⟨_, rfl, a, tx, rfl, ha, by omega, ?_⟩
  cases hc : rdTable tx with
  | error e =>
    rw [hc] at hst
    simp only at hst
    intro H1 s1 dd hdd
    have s2 := s1.trans (Same.new (o := .xd [("place", nv e.2), ("kind", nv e.1)]) hdd)
    refine ⟨true, (er_TableFault c).same, fun _ x hx => ?_, fun q => Bool.noConfusion q⟩
    refine ⟨_, rfl, rfl, rfl, dd, _, nv e.1, rfl, upd_same, rfl, _, rfl, rfl, rfl, dd, _, nv e.2, rfl, upd_same, rfl, by show 3 ≤ sizeLine; decide, fun f hf => ?_⟩
    exact hQ _ hst f _ (s2.trans (Same.new hf)) (s2.free hf) upd_same
  | ok z =>
    rw [hc] at hst
    simp only at hst
    intro t q H1 s1 ht
    obtain ⟨_, _, dxt, h1, _⟩ := id ht
    refine ⟨_, rfl, t, _, _, rfl, h1, rfl, t, q, z, rfl, ht, _, rfl, t, _, _, rfl, h1, rfl, t, q, z, rfl, ht, by show 3 ≤ sizeLine; decide, fun f hf => ?_⟩
    exact hQ _ hst f _ (s1.trans (Same.new hf)) (s1.free hf) upd_same
abbrev N_Desk_load_table : List Str := ["self", "text", "table"]
theorem sc_Desk_load_table : FnScope N_Desk_load_table ["self", "text"] (defScope s_Desk_load_table) := ⟨rfl, rfl, rfl, by decide +kernel, rfl, by decide +kernel, by decide +kernel⟩
theorem ok_Desk_load_table (c : Ctx K mg) : OkM P w K mg base (L2.CX P w) 7 c_Desk "load_table" ["self", "text"] ((fun vs H Q E => ∃ d ws st m a tx, vs = [.ref d, .ref a] ∧ Dk H d ws st m ∧ LN H a tx ∧ tx.length ≤ 2000 ∧ (∀ x ∈ tx, x ≤ 255) ∧ FQ Q E H d ws st m (cl 0 [] [Vbndaa.toInts tx]))) := by
  obtain ⟨fdH, FH, bH⟩ := fnH_Refused (P := P) (w := w) (base := base) c
  refine okM (f_Desk_load_table c) (me_Desk_load_table c) (cl_Desk c) sc_Desk_load_table (fun _ _ _ _ _ _ us hl => match us, hl with | [_, _], _ => rfl) (fun vs H Q E h => by obtain ⟨d, ws, st, m, a, tx, rfl, hd, ha, hl, hb, hQ⟩ := h; rfl) fun cdv A outer s H vs Q E hr h => ⟨_, (pss_cons (L2H.ps_try_onlyX (Wout := fun cls d σ H => E cls d H) rfl rfl ⟨rfl, by decide, .inl (g_TableFault c)⟩ (L2H.passesAt_of rfl) (takes_of rfl rfl rfl rfl) (fun W pn xe tk1 tk2 _ => pss_one (ps_set (i := 2) sc_Desk_load_table.nd rfl (Or.inl rfl) (pcallS (ok_read_table c) (hr.mono (by decide)) (fun σ => passAtN tk1 σ) (pa_cons (pv 1) pa_nil)))) (fun a oe cls d pn hz hf tk hot => pss_one (L2H.ps_raiseH hot tk (L2H.PMk5.pmk (L2H.pmk5_oexH (er_Refused c).ox (er_Refused c).ini (er_Refused c).fnc FH (L2H.roomH_mark (hr.mono (by decide)) _) hot bH passL rfl (g_Refused c) (pa_cons (pgi (i_BAD_TEXT c)) pa_nil)))))) (pss_cons (ps_fld (pv 0) (pmake (E := E0) (ok_Play_init c) (hr.mono (by decide)) passL (pa_cons (pv 2) pa_nil)) rfl) (pss_one (ps_ret (pe_lst (pa_cons (pmeth0 (E := E0) (ok_Table_card_count c) (pv 2) (hr.mono (by decide)) passL) (pa_cons (pmeth0 (E := E0) (ok_Table_player_count c) (pv 2) (hr.mono (by decide)) passL) pa_nil))))))), ?_⟩
  obtain ⟨d, ws, st, m, a, tx, rfl, hd, ha, hl, hb, hQ⟩ := h
  have hst := st_0 st hl hb
  obtain ⟨dx, v, d1, _⟩ := id hd
  refine ⟨_, rfl, a, tx, rfl, ha, by omega, ?_⟩
  cases hc : rdTable tx with
  | error e =>
    rw [hc] at hst
    simp only at hst
    intro H1 s1 dd hdd
    have s2 := s1.trans (Same.new (o := .xd [("place", nv e.2), ("kind", nv e.1)]) hdd)
    refine ⟨true, (er_TableFault c).same, fun _ x hx => ?_, fun q => Bool.noConfusion q⟩
    exact mk_err1 fun d2 hd2 => hQ.1 3 hst _ s2 d2 hd2
  | ok z =>
    rw [hc] at hst
    simp only at hst
    intro t q H1 s1 ht
    have hz := wt_table hc
    refine ⟨_, rfl, fun x dx2 hx hdx hne => ?_⟩
    have s2 : Same H1 (upd (upd H1 dx2 (.own x)) x (.ins c_Play dx2 [])) := (Same.new hdx).put hx
    refine ⟨x, dx2, t, q, z, rfl, upd_same, ht.same s2, hz, fun H2 l g o ac b2 hn pl => ⟨rfl, ?_⟩⟩
    have s3 : Same H1 H2 := fun b u e => b2 b u (s2 b u e) (by simpa using ne_of_none e hx)
    have sH := s1.trans s3
    have d2 := sH _ _ d1
    refine ⟨_, rfl, d, _, _, _, rfl, d2, cl_Desk c, na_Desk_play c, by show 1 < 1000; decide, ?_⟩
    have pl2 : PlayAt (upd H2 d (deskO dx (.ref x))) x t q l g o ac (newS z) := pl.sim (sim_desk d2)
    have ht2 : TbW (upd H2 d (deskO dx (.ref x))) t q z := pl2.tb
    obtain ⟨_, _, dxt, h1, _⟩ := id ht2
    refine ⟨_, rfl, t, _, _, rfl, h1, rfl, t, q, z, rfl, ht2, _, rfl, t, _, _, rfl, h1, rfl, t, q, z, rfl, ht2, by show 2 ≤ sizeLine; decide, fun f hf => ?_⟩
    have s4 := Same.new (o := .lst [V.int (Vbndaa.deckSize z.deck : Nat), V.int (z.players.length : Nat)]) hf
    have hfd : f ≠ d := (ne_of_none upd_same hf).symm
    have hf2 : H2 f = none := (upd_ne hfd).symm.trans hf
    refine hQ.2 _ _ hst f _ [l, g, o, ac] ?_ (sH.free hf2) upd_same ⟨dx, .ref x, s4 _ _ upd_same, x, t, q, l, g, o, ac, rfl, rfl, pl2.same s4, (wh_new hz).mono (Nat.zero_le _)⟩ (fun y hy => .inr (s1.free (s2.free (hn y hy))))
    exact ((sH.but (d :: ws)).put (by simp)).trans (s4.but _)
end

end VD
namespace VD
open PySem PySem.Spec PyProof.Rows L2
section
variable {P : Program} {w : World} {K : PySem.W.Frag} {mg : Str → Option Value} {base : Heap}
abbrev N_Desk_fields : List Str := ["self", "call"]
theorem sc_Desk_fields : FnScope N_Desk_fields ["self", "call"] (defScope s_Desk_fields) := ⟨rfl, rfl, rfl, by decide +kernel, rfl, by decide +kernel, by decide +kernel⟩
theorem ok_Desk_fields (c : Ctx K mg) : OkM P w K mg base (L2.CX P w) 12 c_Desk "fields" ["self", "call"] ((fun vs H Q E => ∃ d ws st m a op ns rows, vs = [.ref d, .ref a] ∧ Dk H d ws st m ∧ m ≤ 5000 ∧ CallAt H a ((op : Nat) : Int) ns rows ∧ Ask op ns rows ∧ FQ Q E H d ws st m (cl op ns rows))) := by
  refine okM (f_Desk_fields c) (me_Desk_fields c) (cl_Desk c) sc_Desk_fields (fun _ _ _ _ _ _ us hl => match us, hl with | [_, _], _ => rfl) (fun vs H Q E h => by obtain ⟨d, ws, st, m, a, op, ns, rows, rfl, hd, hm, ha, hk, hQ⟩ := h; rfl) fun cdv A outer s H vs Q E hr h => ⟨_, (pss_cons (ps_expr (pcall (ok_need_ranges c) (hr.mono (by decide)) (passes_call (takes_of rfl rfl rfl rfl) (fun _ _ _ _ h => h)) (pa_cons (pv 1) pa_nil)))
      (pss_cons (ps_if (pt_cmpR op_eq (pe_fldK (K := K) rfl (pv 1)) (pgi (i_LOAD c)) (nomark _)) (pss_one (ps_ret (pmeth (ok_Desk_load_table c) (pv 0) (hr.mono (by decide)) (passes_call (takes_of rfl rfl rfl rfl) (fun _ _ _ _ h => h)) (pa_cons (pe_ix (ix_listK (K := K) rfl) (pe_fldK (K := K) rfl (pv 1)) pe_int (fun _ _ => rfl)) pa_nil)))) pss_nil)
      (pss_cons (ps_if (pt_cmpR op_eq (pe_fldK (K := K) rfl (pv 1)) (pgi (i_CHECK c)) (nomark _)) (pss_one (ps_ret (pcall (E := E0) (ok_check_table c) (hr.mono (by decide)) passL (pa_cons (pe_ix (ix_listK (K := K) rfl) (pe_fldK (K := K) rfl (pv 1)) pe_int (fun _ _ => rfl)) pa_nil)))) pss_nil)
      (pss_cons (ps_if (pt_chain op_le op_le (pgi (i_COMPOSE c)) (pe_fldK (K := K) rfl (pv 1)) (pgi (i_RANK_desk c))) (pss_one (ps_ret (pcall (ok_fields_of_orders c) (hr.mono (by decide)) (passes_call (takes_of rfl rfl rfl rfl) (fun _ _ _ _ h => h)) (pa_cons (pv 1) pa_nil)))) pss_nil)
      (pss_one (ps_ret (pmeth (ok_Desk_at_table c) (pv 0) (hr.mono (by decide)) (passes_call (takes_of rfl rfl rfl rfl) (fun _ _ _ _ h => h)) (pa_cons (pv 1) pa_nil)))))))), ?_⟩
  obtain ⟨d, ws, st, m, a, op, ns, rows, rfl, hd, hm, ha, hk, hQ⟩ := h
  refine ⟨_, rfl, a, op, ns, rows, rfl, ha, hk.lt, hk.hns, hk.hrows, fun hi H1 s1 => ?_, fun hi H1 s1 => hQ.1 1 (out_range hk st hi) H1 s1⟩
  have hi : inR op ns rows = true := hi
  have hd1 := hd.same s1
  have ha1 := ha.same s1
  have hQ1 := hQ.same s1
  obtain ⟨dxc, b, q, h1, h2, h3⟩ := id ha1
  obtain ⟨dx, v, d1, _⟩ := id hd1
  refine ⟨_, rfl, a, _, _, _, _, rfl, h1, cl_Call c, na_Call_operation c, rfl, rfl, _, rfl, ite2 (fun e => ?_) (fun e => ?_)⟩
  · have e : op = 0 := nv_inj (b := 0) (of_decide_eq_true e)
    subst e
    obtain ⟨_, hn, hmr, _⟩ := hk
    unfold inR at hi
    obtain rfl := len0 hn
    obtain ⟨r, rfl⟩ := len1 hmr
    have hi : (okL r 2000 255 && true) = true := hi
    rw [Bool.and_true] at hi
    obtain ⟨x, tx, g1, rfl, g2, g4, g6⟩ := row1 (m := 2000) (gr := 255) h3 hi
    exact ⟨_, rfl, d, _, _, rfl, d1, rfl, _, rfl, a, _, _, _, _, rfl, h1, cl_Call c, na_Call_rows c, rfl, q, _, (0 : Nat), _, rfl, rfl, SqL.of g1, atI_nat rfl, d, ws, st, m, x, tx, rfl, hd1, g2, g4, g6, hQ1⟩
  · have e0 : op ≠ 0 := fun z => e (by subst z; exact decide_eq_true rfl)
    refine ⟨_, rfl, a, _, _, _, _, rfl, h1, cl_Call c, na_Call_operation c, rfl, rfl, _, rfl, ite2 (fun e => ?_) (fun e => ?_)⟩
    · have e : op = 1 := nv_inj (b := 1) (of_decide_eq_true e)
      subst e
      obtain ⟨_, hn, hmr, _⟩ := hk
      unfold inR at hi
      obtain rfl := len0 hn
      obtain ⟨r, rfl⟩ := len1 hmr
      have hi : (okL r 2000 255 && true) = true := hi
      rw [Bool.and_true] at hi
      obtain ⟨x, tx, g1, rfl, g2, g4, g6⟩ := row1 (m := 2000) (gr := 255) h3 hi
      exact ⟨_, rfl, a, _, _, _, _, rfl, h1, cl_Call c, na_Call_rows c, rfl, q, _, (0 : Nat), _, rfl, rfl, SqL.of g1, atI_nat rfl, st, x, tx, rfl, g2, g4, g6, (hQ1.oq hd1).2⟩
    · have e1 : op ≠ 1 := fun z => e (by subst z; exact decide_eq_true rfl)
      refine ⟨_, rfl, a, _, _, _, _, rfl, h1, cl_Call c, na_Call_operation c, rfl, _, _, rfl, rfl, _, rfl, ?_⟩
      by_cases c1 : (16 : Int) ≤ (op : Nat)
      · rw [decide_eq_true c1]
        refine ⟨_, _, rfl, rfl, _, rfl, ite2 (fun e => ?_) (fun e => ?_)⟩
        · have e := of_decide_eq_true e
          exact ⟨_, rfl, st, a, op, ns, rows, rfl, ha1, hk, hi, by omega, by omega, hQ1.oq hd1⟩
        · have e : ¬ ((op : Nat) : Int) ≤ 20 := fun z => e (decide_eq_true z)
          exact ⟨_, rfl, d, _, _, rfl, d1, rfl, _, rfl, d, ws, st, m, a, op, ns, rows, rfl, hd1, hm, ha1, hk, hi, by omega, hQ1⟩
      · rw [decide_eq_false c1]
        exact ⟨_, rfl, iteF ⟨_, rfl, d, _, _, rfl, d1, rfl, _, rfl, d, ws, st, m, a, op, ns, rows, rfl, hd1, hm, ha1, hk, hi, by omega, hQ1⟩⟩
abbrev N_answer_of : List Str := ["desk", "call", "refusal"]
theorem sc_answer_of : FnScope N_answer_of ["desk", "call"] (defScope s_answer_of) := ⟨rfl, rfl, rfl, by decide +kernel, rfl, by decide +kernel, by decide +kernel⟩
theorem ok_answer_of (c : Ctx K mg) : OkF P w K mg base (L2.CX P w) 13 "answer_of" ["desk", "call"] ((fun vs H Q _ => ∃ d ws st m a op ns rows, vs = [.ref d, .ref a] ∧ Dk H d ws st m ∧ m ≤ 5000 ∧ CallAt H a ((op : Nat) : Int) ns rows ∧ Ask op ns rows ∧ (Vbndaa.stepLists st (cl op ns rows)).2.length ≤ 10000000 ∧ ∀ f H' ws', But (d :: ws) H H' → LI H' f (Vbndaa.stepLists st (cl op ns rows)).2 → Dk H' d ws' (Vbndaa.stepLists st (cl op ns rows)).1 (m + 1) → (∀ x ∈ ws', x ∈ ws ∨ H x = none) → Q (.ref f) H')) := by
  refine okF (f_answer_of c) (g_answer_of c) sc_answer_of (fun _ _ _ _ _ _ us hl => match us, hl with | [_, _], _ => rfl) (fun vs H Q E h => by obtain ⟨d, ws, st, m, a, op, ns, rows, rfl, hd, hm, ha, hk, hl, k⟩ := h; rfl) fun cdv A outer s H vs Q E hr h => ⟨_, (pss_one (ps_try_as (Wout := fun _ _ _ _ => False) (i := 2) rfl rfl sc_answer_of.nd rfl rfl ⟨rfl, by decide, .inl (g_Refused c)⟩ takes0 (fun W pn xe tk _ => pss_one (ps_ret (pe_op op_cat (pe_lst (pa_cons pe_int pa_nil)) (pmethS (ok_Desk_fields c) (pv 0) (hr.mono (by decide)) (fun σ => passAt tk σ) (pa_cons (pv 1) pa_nil))))) (fun a oe cls d pn hz hf => pss_one (ps_ret (pe_lst (pa_cons (pe_xf (er_Refused c).xf ((er_Refused c).no _ (by decide)) hz hf (pv 2)) pa_nil)))))), ?_⟩
  obtain ⟨d, ws, st, m, a, op, ns, rows, rfl, hd, hm, ha, hk, hl, k⟩ := h
  refine ⟨by show 1 ≤ sizeLine; decide, fun f0 hf0 => ?_⟩
  have s0 := Same.new (o := .lst [V.int 0]) hf0
  have hd0 := hd.same s0
  obtain ⟨dx, v, d1, _⟩ := id hd0
  refine ⟨_, rfl, d, _, _, rfl, d1, rfl, _, rfl, d, ws, st, m, a, op, ns, rows, rfl, hd0, hm, ha.same s0, hk, fun j e H1 s1 dd hdd => ?_, fun st' fs e f H1 ws' b hf hfl hdk hw => ?_⟩
  · refine ⟨true, (er_Refused c).same, fun _ x hx => ?_, fun q => Bool.noConfusion q⟩
    have s2 := (s0.trans s1).trans (Same.new (o := .xd [("code", .int (-(j : Int)))]) hdd)
    refine ⟨_, rfl, rfl, rfl, dd, _, .int (-(j : Int)), rfl, upd_same, rfl, by show 1 ≤ sizeLine; decide, fun f hf => ?_⟩
    have s3 := s2.trans (Same.new (o := .lst [V.int (-(j : Int))]) hf)
    rw [e] at k
    exact k f _ ws (s3.but _) upd_same ((hd.same s3).up (Nat.le_succ _)) fun x hx => .inl hx
  · have hfw : f0 ∉ d :: ws := by
      intro hm
      rcases List.mem_cons.mp hm with rfl | hm
      · obtain ⟨_, _, d0, _⟩ := hd
        rw [d0] at hf0
        cases hf0
      · obtain ⟨vs, hv⟩ := hd.lsts _ hm
        rw [hv] at hf0
        cases hf0
    have h0 := b _ _ upd_same hfw
    rw [e] at k hl
    have hl : fs.length + 1 ≤ 10000000 := hl
    refine ⟨f0, f, _, _, rfl, rfl, h0, hfl, by rw [sizeLine_eq, List.length_map]; show 1 + _ ≤ _; omega, fun r hr => ?_⟩
    have s3 := Same.new (o := .lst ([V.int 0] ++ fs.map V.int)) hr
    exact k r _ ws' (((s0.but _).trans b).trans (s3.but _)) upd_same (hdk.same s3) fun x hx => (hw x hx).imp id s0.free
end

end VD
namespace VD
open PySem PySem.Spec PyProof.Rows L2
/-! ### the list of calls -/
theorem whole_id (c : List (List Int)) : PyVbndaa.whole c = c := by
  unfold PyVbndaa.whole
  split <;> rfl
theorem shape_inv {p : Int} {x : Nat × Nat} (h : PyVbndaa.shape p = some x) : ∃ op : Nat, op < 25 ∧ p = ((op : Nat) : Int) := by
  by_cases hp : 0 ≤ p ∧ p < 25
  · exact ⟨p.toNat, by omega, by omega⟩
  · exfalso
    unfold PyVbndaa.shape at h
    repeat rw [if_neg (by omega)] at h
    cases h
theorem rows_suf : ∀ (k : Nat) (r : List Int) (xs : List (List Int)) (t : List Int), PyFlat.rows k r = some (xs, t) → xs.length = k ∧ t <:+ r
  | 0, r, xs, t, h => by
    unfold PyFlat.rows at h
    cases h
    exact ⟨rfl, List.suffix_refl _⟩
  | k + 1, r, xs, t, h => by
    unfold PyFlat.rows at h
    cases hr : PyFlat.row r with
    | none => rw [hr] at h; cases h
    | some y =>
      obtain ⟨x, s⟩ := y
      rw [hr] at h
      simp only at h
      have hs : s <:+ r := by
        unfold PyFlat.row at hr
        split at hr
        · cases hr
        · split at hr
          · cases hr
            exact (List.drop_suffix _ _).trans (List.suffix_cons _ _)
          · cases hr
      cases hk : PyFlat.rows k s with
      | none => rw [hk] at h; cases h
      | some y =>
        obtain ⟨ys, u⟩ := y
        rw [hk] at h
        cases h
        obtain ⟨e1, e2⟩ := rows_suf k s ys t hk
        exact ⟨by rw [List.length_cons, e1], e2.trans hs⟩
/-- the call at a place -/
theorem call_at {l : List Int} (hl : ∀ x ∈ l, x ≤ 1000000000000000000) {pl f : Nat} {cs : List (List (List Int))} (hp : pl < l.length) (h : PyFlat.calls PyVbndaa.shape f (l.drop pl) = some cs) :
    ∃ (op : Nat) (ns : List Int) (rows : List (List Int)) (t : List Int) (f' : Nat) (cs' : List (List (List Int))), restAt l pl = some (cl op ns rows, t) ∧ Ask op ns rows ∧ cs = cl op ns rows :: cs' ∧ pl < l.length - t.length ∧ l.length - t.length ≤ l.length ∧ PyFlat.calls PyVbndaa.shape f' (l.drop (l.length - t.length)) = some cs' := by
  rw [List.drop_eq_getElem_cons hp] at h
  cases f with
  | zero => cases h
  | succ f =>
    unfold PyFlat.calls at h
    rw [← List.drop_eq_getElem_cons hp] at h
    cases hc : PyFlat.call PyVbndaa.shape (l.drop pl) with
    | none => rw [hc] at h; cases h
    | some y =>
      obtain ⟨cc, t⟩ := y
      rw [hc] at h
      simp only at h
      cases hk : PyFlat.calls PyVbndaa.shape f t with
      | none => rw [hk] at h; cases h
      | some cs' =>
        rw [hk] at h
        cases h
        have hcc : ∃ p ns rows, cc = (p :: ns) :: rows := by
          unfold PyFlat.call at hc
          split at hc
          · cases hc
          · split at hc
            · cases hc
            · split at hc
              · cases hc
              · split at hc
                · cases hc
                · cases hc
                  exact ⟨_, _, _, rfl⟩
        obtain ⟨p, ns, rows, rfl⟩ := hcc
        obtain ⟨n, k, hs, h0, hns, hn, hrs⟩ := restAt_inv (l := l) (pl := pl) hc
        obtain ⟨op, hop, rfl⟩ := shape_inv hs
        rw [shape_at op hop] at hs
        cases hs
        obtain ⟨hr1, hr2⟩ := rows_suf _ _ _ _ hrs
        have ht : t <:+ l := hr2.trans (List.drop_suffix _ _)
        have htl := hr2.length_le
        rw [List.length_drop] at htl
        refine ⟨op, ns, rows, t, f, cs', hc, ⟨hop, ?_, hr1, fun x hx => ?_⟩, rfl, by omega, Nat.sub_le _ _, ?_⟩
        · rw [hns, List.length_take, List.length_drop]
          omega
        · rw [hns] at hx
          exact hl x (List.mem_of_mem_drop (List.mem_of_mem_take hx))
        · rw [← List.suffix_iff_eq_drop.mp ht]
          exact hk
theorem told_cons (a : List Int) (r : List (List Int)) : PyFlat.told (a :: r) = ((a.length : Int) :: a) ++ PyFlat.told r := by
  unfold PyFlat.told
  rw [List.flatMap_cons]
/-- answers' promise: a list that may be handed in; the specification's list comes out -/
def spAnswers (K : PySem.W.Frag) : Sp := fun vs H Q _ => ∃ (a : Addr) (ns : List Int), vs = [.ref a] ∧ SqL K H a (ns.map V.int) ∧ (∀ b u, H b = some u → ∃ o z, u = .frz o z) ∧ ns.length ≤ 17000 ∧ (∀ x ∈ ns, -1000000000000000000 ≤ x ∧ x ≤ 1000000000000000000) ∧ PyVbndaa.answers_asked ns = true ∧
  ∀ (H' : Hp) (p : Addr), H' p = some (.lst ((PyVbndaa.answers ns).map V.int)) → Q (.ref p) H'
theorem asked_is {l : List Int} (h : PyVbndaa.answers_asked l = true) : ∃ cs, PyFlat.calls PyVbndaa.shape l.length l = some cs ∧ cs.length ≤ 120 ∧ PyVbndaa.answers l = PyFlat.told (PyFlat.played VbndaaNeutral.step VbndaaNeutral.start cs) ∧ (PyVbndaa.answers l).length ≤ 10000000 := by
  unfold PyVbndaa.answers_asked at h
  cases hc : PyFlat.calls PyVbndaa.shape l.length l with
  | none => rw [hc] at h; cases h
  | some cs =>
    rw [hc] at h
    simp only [Bool.and_eq_true] at h
    obtain ⟨⟨⟨⟨_, h1⟩, _⟩, _⟩, h2⟩ := h
    refine ⟨cs, rfl, of_decide_eq_true h1, ?_, of_decide_eq_true h2⟩
    have e : cs.map PyVbndaa.whole = cs := (List.map_congr_left (g := id) fun c _ => whole_id c).trans (List.map_id _)
    unfold PyVbndaa.answers PyVbndaa.calls
    rw [hc]
    simp only
    rw [e]
/-- what was handed in: it is never written -/
def Cz (K : PySem.W.Frag) (H : Hp) (a : Addr) (xs : List V) : Prop := (∃ o, H a = some (.frz o (.lst xs))) ∨
  ∃ (o : Obj) (its : Array Value) (n : Nat), K.lookup a = some o ∧ o.cls = .type "list" ∧ o.dict = none ∧ o.data = .seq its n ∧ its.size ≤ sizeLine ∧ Vals xs its.toList
theorem Cz.seq {K : PySem.W.Frag} {H : Hp} {a : Addr} {xs : List V} (h : Cz K H a xs) : SqL K H a xs := by
  rcases h with h | h
  · exact .inl (.inr h)
  · exact .inr h
theorem Cz.but {K : PySem.W.Frag} {H H' : Hp} {a : Addr} {xs : List V} {ms : List Addr} (h : Cz K H a xs) (b : But ms H H') (n : ∀ x ∈ ms, ∀ o u, H x ≠ some (.frz o u)) : Cz K H' a xs := by
  rcases h with ⟨o, h⟩ | h
  · exact .inl ⟨o, b _ _ h fun hm => n a hm _ _ h⟩
  · exact .inr h
section
variable {P : Program} {w : World} {K : PySem.W.Frag} {mg : Str → Option Value} {base : Heap}
abbrev N_answers : List Str := ["calls", "desk", "found", "place", "call", "answer"]
theorem sc_answers : FnScope N_answers ["calls"] (defScope s_answers) := ⟨rfl, rfl, rfl, by decide +kernel, rfl, by decide +kernel, by decide +kernel⟩
theorem fn_answers (c : Ctx K mg) {fd : FuncData} (F : Fun K "answers" "answers" s_answers a_answers fd) : FnOk P w K mg base (L2.CX P w) 14 a_answers fd ["calls"] (spAnswers K) := by
  refine F.okX sc_answers (fun vs H Q E h => by obtain ⟨a, l, rfl, ha, hfz, hl, hb, hask, k⟩ := h; rfl) fun cdv A outer s H vs Q E hr h => ⟨_, (pss_cons (ps_set (i := 1) sc_answers.nd rfl (Or.inl rfl) (pmake0 (E := E0) (ok_Desk_init c) (hr.mono (by decide)) passL))
      (pss_cons (ps_set (i := 2) sc_answers.nd rfl (Or.inl rfl) (pe_lst pa_nil))
      (pss_cons (ps_set (i := 3) sc_answers.nd rfl (Or.inl rfl) pe_int)
      (pss_cons (ps_while PassesOwn.leaving (pt_cmpR op_lt (pv 3) (pe_callB (lenK (K := K) rfl) (by rfl) (b_len c) boot_len (pa_cons (pv 0) pa_nil)) (nomark _)) (pss_cons (ps_asg (pcall (E := E0) (ok_read_call c) (hr.mono (by decide)) passL (pa_cons (pv 0) (pa_cons (pv 3) pa_nil))) (pg_tup rfl (pgs_cons (pg_name (i := 4) sc_answers.nd rfl (Or.inl rfl)) (pgs_cons (pg_name (i := 3) sc_answers.nd rfl (Or.inl rfl)) pgs_nil))))
      (pss_cons (ps_set (i := 5) sc_answers.nd rfl (Or.inl rfl) (pe_lock (pcall (E := E0) (ok_answer_of c) (hr.mono (by decide)) passL (pa_cons (pv 1) (pa_cons (pv 4) pa_nil)))))
      (pss_one (ps_expr (pe_bm PySem.F.plainAttrs_list PySem.F.slot_list_extend PySem.F.type_list_extend mt_extend (pv 2) (pa_cons (pe_op op_cat (pe_lst (pa_cons (pe_callB (lenK (K := K) rfl) (by rfl) (b_len c) boot_len (pa_cons (pv 5) pa_nil)) pa_nil)) (pv 5)) pa_nil)))))))
      (pss_one (ps_ret (pv 2))))))), ?_⟩
  obtain ⟨a, l, rfl, ha, hfz, hl, hb, hask, k⟩ := h
  obtain ⟨cs0, hc0, hcl, hans, hlen⟩ := asked_is hask
  have hz : Cz K H a (l.map V.int) := by
    rcases ha with (h | ⟨o, h⟩) | h
    · obtain ⟨o, z, e⟩ := hfz _ _ h
      cases e
    · exact .inl ⟨o, h⟩
    · exact .inr h
  intro d dx hd hdx hne
  refine ⟨d, dx, rfl, upd_same, fun H1 b1 h1 => ⟨rfl, Nat.zero_le _, fun ff hff => ?_⟩⟩
  have s0 : Same H (upd (upd H dx (.own d)) d (.ins c_Desk dx [])) := (Same.new hdx).put hd
  have s1 : Same H H1 := fun b u e => b1 b u (s0 b u e) (by simpa using ne_of_none e hd)
  have s2 : Same H1 (upd H1 ff (.lst [])) := Same.new hff
  have hnil : ∀ x ∈ ([] : List Addr), ∀ o u, H x ≠ some (.frz o u) := fun x hx => by cases hx
  have sN : Same H1 (drp (upd H1 ff (.lst [])) [ff]) := fun b u e => drp_at ((upd_ne (ne_of_none e hff)).trans e) (by simpa using ne_of_none e hff)
  refine while_by (fun σ H' => ∃ (pl f m : Nat) (cs : List (List (List Int))) (st : Vbndaa.State) (ws : List Addr) (x y : Option V) (out : List Int), σ = [some (.ref a), some (.ref d), some (.ref ff), some (.int (pl : Nat)), x, y] ∧ Dk (drp H' [ff]) d ws st m ∧ LI H' ff out ∧ Cz K H' a (l.map V.int) ∧ pl ≤ l.length ∧ PyFlat.calls PyVbndaa.shape f (l.drop pl) = some cs ∧ m + cs.length ≤ 120 ∧ PyVbndaa.answers l = out ++ PyFlat.told (PyFlat.played VbndaaNeutral.step st cs))
    (fun σ _ => match σ with | [_, _, _, some (.int z), _, _] => l.length - z.toNat | _ => 0) ⟨0, l.length, 0, cs0, none, [], none, none, [], rfl, ⟨dx, .non, sN _ _ h1, rfl, rfl⟩, upd_same, hz.but ((s1.trans s2).but []) hnil, Nat.zero_le _, hc0, by omega, hans⟩ ?_ ?_
  · rintro σ H' ⟨pl, f, m, cs, st, ws, x0, y0, out, rfl, hdk, hout, hz', hpl, hcs, hm, he⟩
    refine ⟨_, rfl, _, rfl, a, _, rfl, .inl hz'.seq, _, _, rfl, rfl, _, rfl, ite2 (fun e => ?_) (fun e => ?_)⟩
    · have e := of_decide_eq_true e
      rw [List.length_map] at e
      have e : pl < l.length := by omega
      obtain ⟨op, ns, rows, t, f', cs', hr, hk, rfl, hlt, hle, hcs'⟩ := call_at (fun x hx => (hb x hx).2) e hcs
      refine ⟨_, rfl, _, rfl, a, pl, l, op, ns, rows, t, rfl, hz'.seq, by omega, hr, hk.lt, fun H2 r ca s2 hca hr2 hcall => ?_⟩
      refine ⟨r, _, rfl, SqT.of hr2, rfl, _, _, rfl, _, _, rfl, rfl, ?_⟩
      have he2 : PyVbndaa.answers l = out ++ ((((Vbndaa.stepLists st (cl op ns rows)).2.length : Int) :: (Vbndaa.stepLists st (cl op ns rows)).2) ++ PyFlat.told (PyFlat.played VbndaaNeutral.step (Vbndaa.stepLists st (cl op ns rows)).1 cs')) := by
        rw [he, ← told_cons]
        rfl
      have hsz := hlen
      rw [he2, List.length_append, List.length_append, List.length_cons] at hsz
      have hout2 := s2 _ _ hout
      refine ⟨ff, _, hout2, trivial, fun od => ?_⟩
      have sL : Same (drp H2 [ff]) (upd H2 ff (.frz od (.lst (out.map V.int)))) := fun b u e => by
        obtain ⟨e1, e2⟩ := drp_of e
        exact (upd_ne (by simpa using e2)).trans e1
      have hdkL := (hdk.same (But.drp (s2.but [ff]))).same sL
      have nc : ∀ {b : Addr} {u : HO}, H2 b = some u → u ≠ .lst (out.map V.int) → upd H2 ff (.frz od (.lst (out.map V.int))) b = some u := fun {b u} e n => (upd_ne (fun z => by rw [z, hout2] at e; cases e; exact n rfl)).trans e
      refine ⟨_, rfl, _, rfl, d, ws, st, m, ca, op, ns, rows, rfl, hdkL, by omega, ?_, hk, by omega, fun g H3 ws' b3 hg hdk3 hw3 => ?_⟩
      · exact hcall.same fun b u e => by
          obtain ⟨e1, e2⟩ := fr_of e
          exact (upd_ne fun z => by rw [z] at e1; have hout : H' ff = _ := hout; rw [hout] at e1; cases e1).trans e2
      generalize hans2 : (Vbndaa.stepLists st (cl op ns rows)).2 = ans at *
      have hffd : ff ∉ d :: ws := by
        have hfz2 : upd H2 ff (.frz od (.lst (out.map V.int))) ff = some (.frz od (.lst (out.map V.int))) := upd_same
        intro hmem
        rcases List.mem_cons.mp hmem with rfl | hmem
        · obtain ⟨_, _, d0, _⟩ := hdkL
          rw [hfz2] at d0
          cases d0
        · obtain ⟨vs, hv⟩ := hdkL.lsts _ hmem
          rw [hfz2] at hv
          cases hv
      have hfz3 := b3 _ _ upd_same hffd
      have hdk4 := hdk3.locked hfz3
      have hz2 : Cz K (upd H2 ff (.frz od (.lst (out.map V.int)))) a (l.map V.int) := by
        rcases hz' with ⟨o, z⟩ | z
        · exact .inl ⟨o, nc (s2 _ _ z) (by intro q; cases q)⟩
        · exact .inr z
      have hz3 : Cz K H3 a (l.map V.int) := hz2.but b3 fun x hx o u e => by
        rcases List.mem_cons.mp hx with rfl | hx
        · obtain ⟨_, _, d0, _⟩ := hdkL
          rw [d0] at e
          cases e
        · obtain ⟨vs, hv⟩ := hdkL.lsts _ hx
          rw [hv] at e
          cases e
      refine ⟨hfz3, ?_⟩
      have hgf : g ≠ ff := fun z => by
        rw [z] at hg
        have hg : H3 ff = _ := hg
        rw [hfz3] at hg
        cases hg
      have hg4 : LI (upd H3 ff (.lst (out.map V.int))) g ans := (upd_ne hgf).trans hg
      have hout4 : LI (upd H3 ff (.lst (out.map V.int))) ff out := upd_same
      have hz4 : Cz K (upd H3 ff (.lst (out.map V.int))) a (l.map V.int) := by
        rcases hz' with ⟨o2, z2⟩ | z2
        · have haf : a ≠ ff := fun haf => by
            rw [haf] at z2
            have hout : H' ff = _ := hout
            rw [hout] at z2
            cases z2
          rcases hz3 with ⟨o, z⟩ | z
          · exact .inl ⟨o, (upd_ne haf).trans z⟩
          · exact .inr z
        · exact .inr z2
      have hdk5 : Dk (drp (upd H3 ff (.lst (out.map V.int))) [ff]) d ws' (Vbndaa.stepLists st (cl op ns rows)).1 (m + 1) := by rw [drp_upd]; exact hdk4
      generalize upd H3 ff (.lst (out.map V.int)) = H4 at hg4 hout4 hz4 hdk5
      refine ⟨_, rfl, .inl ⟨rfl, _, SqL.of hout4⟩, _, rfl, g, _, rfl, .inl (SqL.of hg4), by show 1 ≤ sizeLine; decide, fun q hq => ?_⟩
      have s4 := Same.new (o := .lst [V.int ((ans.map V.int).length : Nat)]) hq
      refine ⟨_, rfl, q, g, _, _, rfl, rfl, upd_same, s4 _ _ hg4, by rw [sizeLine_eq, List.length_map]; show 1 + _ ≤ _; omega, fun r5 hr5 => ?_⟩
      have s5 := s4.trans (Same.new (o := .lst ([V.int ((ans.map V.int).length : Nat)] ++ ans.map V.int)) hr5)
      have hout5 := s5 _ _ hout4
      refine ⟨ff, r5, _, _, rfl, rfl, hout5, upd_same, by rw [sizeLine_eq, List.length_map, List.length_append, List.length_map]; show _ + (1 + _) ≤ _; omega, ?_⟩
      refine ⟨⟨l.length - t.length, f', m + 1, cs', _, ws', _, _, out ++ ((ans.length : Int) :: ans), rfl, ?_, ?_, ?_, hle, hcs', by simp only [List.length_cons] at hm; omega, by rw [List.append_assoc]; exact he2⟩, ?_⟩
      · rw [drp_upd]
        exact hdk5.same (But.drp (s5.but [ff]))
      · show upd _ ff _ ff = _
        rw [upd_same, List.length_map, List.map_append]
        rfl
      · refine (hz4.but (s5.but []) (fun x hx => by cases hx)).but (((Same.refl _).but [ff]).put (by simp)) fun x hx o u e => ?_
        obtain rfl : x = ff := by simpa using hx
        rw [hout5] at e
        cases e
      · show l.length - ((l.length - t.length : Nat) : Int).toNat < l.length - ((pl : Nat) : Int).toNat
        omega
    · have e : ¬ ((pl : Nat) : Int) < ((l.map V.int).length : Nat) := fun z => e (decide_eq_true z)
      rw [List.length_map] at e
      have e : l.drop pl = [] := List.drop_eq_nil_of_le (by omega)
      rw [e] at hcs
      have e2 : cs = [] := by
        cases f with
        | zero => exact (Option.some.inj hcs).symm
        | succ f => exact (Option.some.inj hcs).symm
      subst e2
      have e3 : PyVbndaa.answers l = out := he.trans (List.append_nil _)
      exact ⟨_, rfl, k H' ff (by rw [e3]; exact hout)⟩
  · rintro σ H' R R' m ⟨v, x1, u, x2, p, xs, x3, x4, i, j, x5, x6, b, x7, x8⟩
    exact ⟨v, x1, u, x2, p, xs, x3, x4, i, j, x5, x6, b, x7, m _ _ x8⟩
end

end VD
namespace VD
open PySem PySem.Spec PyProof.Rows L2
open PySem.W (Codec)
theorem walkV {d : DefRec} (hd : d.name = ("answers" : Str)) : PySem.W.WalkOS qv namesV (PySem.W.XL qv []) hookV.says PySem.Challenge.rw_veildeck_s01_answers d [] (fun f vs => PySem.call f vs) := by
  intro w s0 s1 mg mb G Y fa o pm cd doc dV kV ho hdd hcd hD hmg hg args vals as hpre hlay hrd hwl hlo
  obtain ⟨K, KX, S⟩ := Y
  have c : Ctx K mg := ⟨S, s1.heap, KX, G.T.g⟩
  obtain ⟨a, e1, e2⟩ := PySem.W.os_pre_some hpre
  obtain ⟨e3, hwi⟩ := Codec.encAll_of_decAll PySem.Challenge.rw_veildeck_s01_answers.args args a e1
  subst e3
  rw [hd] at hmg
  have hfa : fa = a_answers := by
    rw [g_answers c] at hmg
    cases hmg
    rfl
  subst hfa
  obtain ⟨fd, F⟩ := f_answers c
  obtain ⟨oc, od, kV', doc', pm', an, cdv, ct, osl, rfl, lk, hcd'⟩ := id F.ex
  refine PySem.W.enter_call (codeAny_mono (spec_call (K := K) (k := 14) (ps := ["calls"]) (sp := spAnswers K) (CX := L2.CX PR w) (R := []) (cl := classAt s0.heap) (d0 := PySem.Challenge.rw_veildeck_s01_answers.ret.enc (Codec.app PySem.Challenge.rw_veildeck_s01_answers.args PySem.Challenge.rw_veildeck_s01_answers.f a))
    KX G.T.g G.T.b G.T.builtins G.T.nolimit hg hwl (pl_encAll _ _) (layable_weight hlay) ⟨rfl, by decide, by decide⟩ (fun base _ _ => fn_answers c F) (fun s us hu => match us, hu with | [_], _ => .of_eq rfl) rfl
    (fun H xs hO hS => ?_) fun H e s' h => ?_) fun r' s' hq => ?_)
  · cases hS with
    | cons h1 h2 =>
      cases h2
      cases h1 with
      | lst hs ha =>
        have e := L2.ints_dw a.1 _ ha
        subst e
        have q : ((Codec.inLen 0 17000 a.1 && a.1.all (Codec.inInt (-1000000000000000000) 1000000000000000000)) && true) = true := hwi
        rw [Bool.and_eq_true, Bool.and_eq_true] at q
        refine ⟨_, a.1, rfl, hs, (fun b u hu => (hO b).elim (fun z => by rw [z] at hu; cases hu) fun ⟨o, z, e⟩ => ⟨o, z, Option.some.inj (hu.symm.trans e)⟩), (Codec.inNat_iff.mp q.1.1).2, fun x hx => ?_, e2, fun H' p hp => .lst (L2.SqL.of hp) (L2.dw_ints _)⟩
        have := List.all_eq_true.mp q.1.2 x hx
        exact Codec.inInt_iff.mp this
  · obtain ⟨_, _, _, _, _, _, _, _, _, _, _, _, z⟩ := h
    exact z.elim
  · obtain ⟨u, as', rfl, h1, h2, h3, h4⟩ := hq
    exact ⟨.inl ⟨u, _, as', rfl, fun _ => rfl, h1, (PySem.W.OpenSpec.post_iff said hwi _ _).mpr rfl, fun z => Bool.noConfusion (show false = true from z)⟩, h2, h3, h4⟩

end VD
open PySem PySem.W PySem.Calls PyProof.Rows VD
theorem PySem.Challenge.cw_veildeck_s01_answers_holds : PySem.Challenge.rw_veildeck_s01_answers.Holds := by
  refine holds_os (r := PySem.Challenge.rw_veildeck_s01_answers) (q := qv) (loose := namesV) (XP := XL qv []) (YP := hookV.says) (kwd := []) leftV hookV.of hookV.keeps (fun s z => xl_of s (Bool.and_eq_true_iff.mp z).1) XL.keeps (by rfl) (by rfl) (by rfl) (fun s z => recFacts_of (Bool.and_eq_true_iff.mp z).2) os_shapes said view_ok bare_ok one_ok (walkV rfl)
#print axioms PySem.Challenge.cw_veildeck_s01_answers_holds
