import PyProof.Rows.All
import Wide.All
import OpenK.AllK
import Wide.FinOn
import Lean
import PySem.Challenge.RW_no0088_01
open PySem PySem.W PySem.Calls PyProof.Rows
set_option Elab.async false
set_option maxRecDepth 100000
set_option genInjectivity false
set_option genSizeOfSpec false
namespace Mine
section
noncomputable abbrev N := Nat
noncomputable abbrev N.x_put_whole : N := 2093017915068211293542
noncomputable abbrev N.x_VARINT_SIZES : N := 27005378285745307356803843668
noncomputable abbrev N.x_varint_size : N := 144327093494508321185102694
noncomputable abbrev N.x_index : N := 457135449721
noncomputable abbrev N.x_put_varint : N := 535812586256332564885365
noncomputable abbrev N.x_join : N := 1802529391
noncomputable abbrev N.x_put_numbers : N := 137168022079391305436656500
noncomputable abbrev N.x_put_counted : N := 137168022076288518185117285
noncomputable abbrev N.x_STREAM : N := 92725446066766
noncomputable abbrev N.x_BIT_FIN : N := 18940553987574351
noncomputable abbrev N.x_BIT_LENGTH : N := 317769765415776097424713
noncomputable abbrev N.x_BIT_OFFSET : N := 317769765419078793840213
noncomputable abbrev N.x_put_stream : N := 535812586253115634115182
noncomputable abbrev N.x_padding : N := 31914860000997224
noncomputable abbrev N.x_NUMBER_FRAMES : N := 6285735163381282604627660785236
noncomputable abbrev N.x_ack : N := 6448236
noncomputable abbrev N.x_stream : N := 128047796085358
noncomputable abbrev N.x_new_connection_id : N := 37907549014486190282710442037516657781349
noncomputable abbrev N.x_close : N := 431332815974
noncomputable abbrev N.x_put_frame : N := 2093017914995363704422
noncomputable abbrev N.x_frame_size : N := 488532216023077666585446
noncomputable abbrev N.x_stream_room : N := 140790040706941709473312878
noncomputable abbrev N.x_add_piece : N := 1815087271234247222374
noncomputable abbrev N.x_taken_from : N := 554332470468035589927022
noncomputable abbrev N.x_covered : N := 28271155793323621
noncomputable abbrev N.x_add_span : N := 7090184653309567599
noncomputable abbrev N.x_cut_span : N := 7239102508175549039
noncomputable abbrev N.x_has_span : N := 7593759879319347823
noncomputable abbrev N.x_first_span : N := 488367422010855460528751
noncomputable abbrev N.x_without_spans : N := 9540326854996729872413744066420
noncomputable abbrev N.x_SERVER : N := 92661022672467
noncomputable abbrev N.x_stream_id : N := 2148285533248011922021
noncomputable abbrev N.x_number_of : N := 2056122459817347412071
noncomputable abbrev N.x_CLIENT : N := 75098749292373
noncomputable abbrev N.x_opener_of : N := 2074206677315193172071
noncomputable abbrev N.x_is_one_way : N := 502717618673443229164154
noncomputable abbrev N.x_can_send : N := 7233466411570851685
noncomputable abbrev N.x_can_receive : N := 121357428415387555825612646
noncomputable abbrev N.x_initial_max_stream_data_uni : N := 43784909143729920492313865295303428596009050729472071561175789418
noncomputable abbrev N.x_initial_max_stream_data_bidi_local : N := 3155035208066449488256635851737233339412099738159703498382231422944195226483581549
noncomputable abbrev N.x_initial_max_stream_data_bidi_remote : N := 807689013265011068993698778044731734889497532968884095585851244273713984534085662054
noncomputable abbrev N.x_own_window : N := 531126680917179915137144
noncomputable abbrev N.x_peer_window : N := 137092188879378629584580728
noncomputable abbrev N.x__law_draw : N := 1778769425729382998648
noncomputable abbrev N.x_initial_max_data : N := 141476671742535851928735798493746197858
noncomputable abbrev N.x_initial_max_streams_bidi : N := 2609783956034774809617630558926071440935674375179227260266
noncomputable abbrev N.x_initial_max_streams_uni : N := 10194468578260839100068869370804966566154978028045102954
noncomputable abbrev N.x_bidi_local : N := 469476944435276604007021
noncomputable abbrev N.x_bidi_remote : N := 120186097775437364914582886
noncomputable abbrev N.x_uni : N := 7761770
noncomputable abbrev N.x_initial_max_stream_data_ : N := 2609783956034774809617630558926071440935674353210453484128
noncomputable abbrev N.x__law_params : N := 116573433084613965608283764
noncomputable abbrev N.x_StreamSet : N := 1557989722889305482869
noncomputable abbrev N.x_client : N := 110421099310965
noncomputable abbrev N.x_server : N := 127983372691059
noncomputable abbrev N.x_on_params : N := 2074060875459100569204
noncomputable abbrev N.x_all : N := 6450541
noncomputable abbrev N.x_open_stream : N := 135935208802840839620813422
noncomputable abbrev N.x_sender : N := 127983304402547
noncomputable abbrev N.x_write : N := 517332432230
noncomputable abbrev N.x_finish : N := 113706833441897
noncomputable abbrev N.x_hosts : N := 452858246516
noncomputable abbrev N.x_written : N := 33903898279634543
noncomputable abbrev N.x_read : N := 1936089701
noncomputable abbrev N.x_over : N := 1886873203
noncomputable abbrev N.x_limits : N := 120303886431604
noncomputable abbrev N.x_sent : N := 1952870261
noncomputable abbrev N.x_flying : N := 113719902891880
noncomputable abbrev N.x__law_world : N := 455364972986803602812261
noncomputable abbrev N.x_get : N := 6841973
noncomputable abbrev N.x__law_is_within : N := 1955777666721986942131072355887727
noncomputable abbrev N.x_control_frames : N := 2037149009392321774698801780385396
noncomputable abbrev N.x_next_data : N := 2054972654302689129826
noncomputable abbrev N.x__law_goes : N := 1778769425729433134708
noncomputable abbrev N.x_on_frame : N := 8101800252096540262
noncomputable abbrev N.x_on_acked : N := 8101800230370698853
noncomputable abbrev N.x_max_data : N := 7954053346814489954
noncomputable abbrev N.x_max_stream_data : N := 573149947039004112380818552474727778
noncomputable abbrev N.x__law_arrives : N := 29842798869656971762902460020
noncomputable abbrev N.x_on_lost : N := 31647657335223413
noncomputable abbrev N.x__law_is_lost : N := 29842798869659224580673270901
noncomputable abbrev N.x_readers : N := 32482195115766644
noncomputable abbrev N.x_read_from : N := 2128753139080911614062
noncomputable abbrev N.x__law_reads : N := 455364972986781959087476
noncomputable abbrev N.x__law_turn : N := 1778769425729651635055
noncomputable abbrev N.x__law_ends_well : N := 1955777666721912796269741265546605
noncomputable abbrev N.x_law : N := 7168632
noncomputable abbrev N.x_Credit : N := 75262429850229
noncomputable abbrev N.x___init__ : N := 6944667652165296224
noncomputable abbrev N.x_limit : N := 469937056373
noncomputable abbrev N.x_used : N := 1987339877
noncomputable abbrev N.x_told_at : N := 33056187429708405
noncomputable abbrev N.x_room : N := 1936748654
noncomputable abbrev N.x_spend : N := 500118744933
noncomputable abbrev N.x_raise_to : N := 8314324910245705072
noncomputable abbrev N.x_next_blocked : N := 34476720095328994035183150693
noncomputable abbrev N.x_on_blocked_lost : N := 583796232296827043371569937548080245
noncomputable abbrev N.x_Window : N := 97214158696568
noncomputable abbrev N.x_size : N := 1953135462
noncomputable abbrev N.x_got : N := 6844533
noncomputable abbrev N.x_owes_limit : N := 531126038001957630536309
noncomputable abbrev N.x_on_got : N := 123623661138037
noncomputable abbrev N.x_on_read : N := 31647657435226725
noncomputable abbrev N.x_next_limit : N := 526072999501522910734965
noncomputable abbrev N.x_on_limit_lost : N := 8908023611267715922859402490997
noncomputable abbrev N.x_RecvPart : N := 6009601216401798005
noncomputable abbrev N.x_state : N := 500185593190
noncomputable abbrev N.x_RECEIVING : N := 1536143007284070076232
noncomputable abbrev N.x_pieces : N := 124701798327924
noncomputable abbrev N.x_read_to : N := 32482195115373936
noncomputable abbrev N.x_highest : N := 29671869232084085
noncomputable abbrev N.x_final_size : N := 488367128705133634550630
noncomputable abbrev N.x_reset_code : N := 544962100945940460365158
noncomputable abbrev N.x_stop_code : N := 2148284700908953036134
noncomputable abbrev N.x_check_end : N := 1852269275609198653285
noncomputable abbrev N.x_grown : N := 448613349487
noncomputable abbrev N.x_on_stream : N := 2074060878839240090222
noncomputable abbrev N.x_FRAME_STREAM : N := 22074089660448567152754442830
noncomputable abbrev N.x_SIZE_KNOWN : N := 398050420672691390404687
noncomputable abbrev N.x_has_all : N := 29663124527410541
noncomputable abbrev N.x_DATA_RECEIVED_recvpart : N := 25912910774332728155496990704099410023762414769697653
noncomputable abbrev N.x_RESET_RECEIVED_recvpart : N := 7976133895253612444703498979882513041803968022262739829
noncomputable abbrev N.x_RESET_READ : N := 393253762798359979377221
noncomputable abbrev N.x_DATA_READ : N := 1277605140646964118085
noncomputable abbrev N.x_raise_limit : N := 139491224913372772612074101
noncomputable abbrev N.x_used_to : N := 33342030388163952
noncomputable abbrev N.x_SendPart : N := 6081670827758220149
noncomputable abbrev N.x_READY : N := 357661033818
noncomputable abbrev N.x_sent_to : N := 32763726195094896
noncomputable abbrev N.x_acked : N := 422591620709
noncomputable abbrev N.x_lost : N := 1836086389
noncomputable abbrev N.x_is_finished : N := 128695709730485683928786533
noncomputable abbrev N.x_owes_end : N := 8104340179472772965
noncomputable abbrev N.x_is_end_acked : N := 32946101672915053159973152357
noncomputable abbrev N.x_owes_reset : N := 531126038001983333623413
noncomputable abbrev N.x_OPEN_STATES : N := 97097874246032186829784660
noncomputable abbrev N.x_new_room : N := 8027235741483429998
noncomputable abbrev N.x_blocked_at : N := 469533075625346179555957
noncomputable abbrev N.x_next_chunk : N := 526072999501484239777644
noncomputable abbrev N.x_DATA_SENT : N := 1277605140646980898645
noncomputable abbrev N.x_SENDING : N := 23721204322553672
noncomputable abbrev N.x_next_reset : N := 526072999501548613822069
noncomputable abbrev N.x_DATA_RECEIVED_sendpart : N := 25912910774332728155496990704099410095832026126119797
noncomputable abbrev N.x_StreamIds : N := 1557989722889304827252
noncomputable abbrev N.x_role : N := 1936747878
noncomputable abbrev N.x_own_limits : N := 531126680905085270783348
noncomputable abbrev N.x_peer_limits : N := 137092188879366534940226932
noncomputable abbrev N.x_own_many : N := 8104349989412695930
noncomputable abbrev N.x_peer_many : N := 2091860792226678468474
noncomputable abbrev N.x_closed_many : N := 121409394330934785136029562
noncomputable abbrev N.x_granted : N := 29400264191862373
noncomputable abbrev N.x_open_own : N := 8102369833161619567
noncomputable abbrev N.x_take_id : N := 33040789988731493
noncomputable abbrev N.x_SENDING_FRAMES : N := 1709292911165313886673927712687700
noncomputable abbrev N.x_next_grant : N := 526072999501501586108277
noncomputable abbrev N.x_params : N := 124667656564340
noncomputable abbrev N.x_peer : N := 1902536307
noncomputable abbrev N.x_ids : N := 6972788
noncomputable abbrev N.x_credit : N := 110446801939061
noncomputable abbrev N.x_window : N := 132398530785400
noncomputable abbrev N.x_senders : N := 32763725927052148
noncomputable abbrev N.x_windows : N := 33894023881062516
noncomputable abbrev N.x_owed : N := 1886938725
noncomputable abbrev N.x_events : N := 112663005721972
noncomputable abbrev N.x_turn : N := 1970697071
noncomputable abbrev N.x_make_parts : N := 521275905071528329573748
noncomputable abbrev N.x_reader_of : N := 2128753139106881499239
noncomputable abbrev N.x_settle : N := 127983406116198
noncomputable abbrev N.x_opened_by : N := 2074206677314958287738
noncomputable abbrev N.x_append : N := 108239373365093
noncomputable abbrev N.x_opened : N := 123632352192101
noncomputable abbrev N.x_max_streams : N := 133446871079272616743300724
noncomputable abbrev N.x_data_blocked : N := 31377015053883015952174179941
noncomputable abbrev N.x_streams_blocked : N := 604688620438823729928336920298677861
noncomputable abbrev N.x_blocked : N := 27986352182945381
noncomputable abbrev N.x_reset_stream : N := 35714636247593171624386781806
noncomputable abbrev N.x_stream_data_blocked : N := 2597117849048103505733946854739228828401165925
noncomputable abbrev N.x_on_sender_frame : N := 583796237549605025248703048786800230
noncomputable abbrev N.x_on_reader_frame : N := 583796237240058624663080674674241126
noncomputable abbrev N.x_on_reset : N := 8101800303419221621
noncomputable abbrev N.x_reset : N := 495640143477
noncomputable abbrev N.x_readable : N := 8315441949568101734
noncomputable abbrev N.x_on_stop : N := 31647657452990577
noncomputable abbrev N.x_stopped : N := 32780223098480229
noncomputable abbrev N.x_limit_frames : N := 33862533631531624503178061428
noncomputable abbrev N.x_blocked_frames : N := 2016629204201156589876869736588916
noncomputable abbrev N.x_wants_new : N := 2220702305925972584056
noncomputable abbrev N.x_data_frame : N := 478775254118105291583078
noncomputable abbrev N.x_on_reset_acked : N := 2280454051719311120242322164180581
noncomputable abbrev N.x_on_reset_lost : N := 8908023639528559063446756291701
noncomputable abbrev N.x_stop_sending : N := 36042236456649394068526886760
noncomputable abbrev N.x_is_over : N := 29964305083885171
noncomputable abbrev N.x_on_grant_lost : N := 8908023587821040921420990805109
noncomputable abbrev N.x_pop : N := 7434353
noncomputable abbrev N.x_recv : N := 1936090231
noncomputable abbrev N.x_size_known : N := 549758758785225189259375
noncomputable abbrev N.x_data_recvd : N := 478775254118156613220197
noncomputable abbrev N.x_data_read : N := 1870215836399049269861
noncomputable abbrev N.x_reset_recvd : N := 139510297842160822110156645
noncomputable abbrev N.x_reset_read : N := 544962100945940711367269
noncomputable abbrev N.x_ready : N := 495638963578
noncomputable abbrev N.x_send : N := 1952870245
noncomputable abbrev N.x_data_sent : N := 1870215836399066050421
noncomputable abbrev N.x_reset_sent : N := 544962100945940728147829
noncomputable abbrev N.x_ping : N := 1902800744
noncomputable abbrev N.x_retire_connection_id : N := 658818843015769367279354089050824635138678221413
noncomputable abbrev N.x_handshake_done : N := 2137451843797159762275499542343526
noncomputable def look {α : Type} (n : N) : List (N × α) → Option α
  | [] => none
  | (a, b) :: r => bif Nat.beq a n then some b else look n r
noncomputable def look2 {α : Type} (c n : N) (t : List (N × List (N × α))) : Option α := (look c t).bind (look n)
inductive D where
  | none | bool (b : Bool) | int (i : Int) | str (n : N) | bytes (l : List UInt8) | tup (l : List D) | lst (l : List D)
noncomputable def catT : List (N × List (N × N)) := [(N.x_initial_max_stream_data_, [(N.x_bidi_local, N.x_initial_max_stream_data_bidi_local), (N.x_bidi_remote, N.x_initial_max_stream_data_bidi_remote), (N.x_uni, N.x_initial_max_stream_data_uni)])]
noncomputable def attrT : List (N × List N) := [(N.x_Credit, [N.x_limit, N.x_used, N.x_told_at]), (N.x_Window, [N.x_size, N.x_limit, N.x_got, N.x_used, N.x_owes_limit]), (N.x_RecvPart, [N.x_limit, N.x_state, N.x_pieces, N.x_read_to, N.x_highest, N.x_final_size, N.x_reset_code, N.x_stop_code]), (N.x_SendPart, [N.x_limit, N.x_state, N.x_written, N.x_sent_to, N.x_acked, N.x_lost, N.x_is_finished, N.x_owes_end, N.x_is_end_acked, N.x_reset_code, N.x_owes_reset]), (N.x_StreamIds, [N.x_role, N.x_own_limits, N.x_peer_limits, N.x_own_many, N.x_peer_many, N.x_closed_many, N.x_granted]), (N.x_StreamSet, [N.x_role, N.x_params, N.x_peer, N.x_ids, N.x_credit, N.x_window, N.x_senders, N.x_readers, N.x_windows, N.x_owed, N.x_blocked_at, N.x_events, N.x_over, N.x_turn])]
noncomputable def attrsOf (c : N) : List N := (look c attrT).getD []
noncomputable def gconT : List (N × D) := [(N.x_STREAM, .int 8), (N.x_BIT_FIN, .int 1), (N.x_BIT_LENGTH, .int 2), (N.x_BIT_OFFSET, .int 4), (N.x_VARINT_SIZES, .tup [.int 1, .int 2, .int 4, .int 8]), (N.x_RECEIVING, .str N.x_recv), (N.x_SIZE_KNOWN, .str N.x_size_known), (N.x_DATA_RECEIVED_recvpart, .str N.x_data_recvd), (N.x_DATA_READ, .str N.x_data_read), (N.x_RESET_RECEIVED_recvpart, .str N.x_reset_recvd), (N.x_RESET_READ, .str N.x_reset_read), (N.x_FRAME_STREAM, .int 8), (N.x_READY, .str N.x_ready), (N.x_SENDING, .str N.x_send), (N.x_DATA_SENT, .str N.x_data_sent), (N.x_DATA_RECEIVED_sendpart, .str N.x_data_recvd), (N.x_OPEN_STATES, .tup [.str N.x_ready, .str N.x_send]), (N.x_CLIENT, .str N.x_client), (N.x_SERVER, .str N.x_server), (N.x_SENDING_FRAMES, .tup [.str N.x_stream, .str N.x_reset_stream, .str N.x_stream_data_blocked])]
noncomputable def topT : List (N × List N) := [(N.x_NUMBER_FRAMES, [N.x_ping, N.x_reset_stream, N.x_stop_sending, N.x_max_data, N.x_max_stream_data, N.x_data_blocked, N.x_stream_data_blocked, N.x_retire_connection_id, N.x_handshake_done])]
noncomputable def fnK : List (N × List (N × Unit)) := [(N.x_law, [(N.x_put_whole, ()), (N.x_varint_size, ()), (N.x_put_varint, ()), (N.x_put_numbers, ()), (N.x_put_counted, ()), (N.x_put_stream, ()), (N.x_put_frame, ()), (N.x_frame_size, ()), (N.x_stream_room, ()), (N.x_add_piece, ()), (N.x_taken_from, ()), (N.x_covered, ()), (N.x_add_span, ()), (N.x_cut_span, ()), (N.x_has_span, ()), (N.x_first_span, ()), (N.x_without_spans, ()), (N.x_stream_id, ()), (N.x_number_of, ()), (N.x_opener_of, ()), (N.x_is_one_way, ()), (N.x_can_send, ()), (N.x_can_receive, ()), (N.x_own_window, ()), (N.x_peer_window, ()), (N.x__law_draw, ()), (N.x__law_params, ()), (N.x__law_world, ()), (N.x__law_is_within, ()), (N.x__law_goes, ()), (N.x__law_arrives, ()), (N.x__law_is_lost, ()), (N.x__law_reads, ()), (N.x__law_turn, ()), (N.x__law_ends_well, ()), (N.x_law, ())]), (N.x_Credit, [(N.x___init__, ()), (N.x_room, ()), (N.x_spend, ()), (N.x_raise_to, ()), (N.x_next_blocked, ()), (N.x_on_blocked_lost, ())]), (N.x_Window, [(N.x___init__, ()), (N.x_on_got, ()), (N.x_on_read, ()), (N.x_next_limit, ()), (N.x_on_limit_lost, ())]), (N.x_RecvPart, [(N.x___init__, ()), (N.x_check_end, ()), (N.x_grown, ()), (N.x_on_stream, ()), (N.x_has_all, ()), (N.x_read, ()), (N.x_raise_limit, ()), (N.x_used_to, ())]), (N.x_SendPart, [(N.x___init__, ()), (N.x_write, ()), (N.x_finish, ()), (N.x_raise_limit, ()), (N.x_new_room, ()), (N.x_blocked_at, ()), (N.x_next_chunk, ()), (N.x_next_reset, ()), (N.x_on_acked, ()), (N.x_on_lost, ())]), (N.x_StreamIds, [(N.x___init__, ()), (N.x_open_own, ()), (N.x_raise_limit, ()), (N.x_take_id, ()), (N.x_next_grant, ())]), (N.x_StreamSet, [(N.x___init__, ()), (N.x_open_stream, ()), (N.x_make_parts, ()), (N.x_sender, ()), (N.x_reader_of, ()), (N.x_read_from, ()), (N.x_settle, ()), (N.x_on_params, ()), (N.x_opened_by, ()), (N.x_on_frame, ()), (N.x_on_sender_frame, ()), (N.x_on_reader_frame, ()), (N.x_control_frames, ()), (N.x_limit_frames, ()), (N.x_blocked_frames, ()), (N.x_wants_new, ()), (N.x_next_data, ()), (N.x_data_frame, ()), (N.x_on_acked, ()), (N.x_on_lost, ())])]
noncomputable def topKeys (n : N) : List N := (look n topT).getD []
inductive V where
  | d (x : D) | loc (i : Nat)
inductive Key where
  | i (k : Int) | s (n : N)
  deriving DecidableEq
noncomputable def Key.d : Key → D
  | .i k => .int k
  | .s n => .str n
inductive Cell where
  | lst (l : List V) | log (n : Nat) | dict (l : List (Key × V)) | lock (l : List (Key × V)) | inst (c : N) (l : List (N × V))
noncomputable abbrev Store := List Cell
inductive Op where | add | sub | mul | fdiv | mod | shl | shr | bor
inductive Cp where | eq | ne | lt | le | gt | ge | is | isnot | isin | notin
inductive Bi where | len | min | max | abs | sum | sorted | bytes | int | list
inductive E where
  | any
  | cst (d : D) | var (i : Nat) | gcon (n : N)
  | bin (o : Op) (a b : E) | cmp (o : Cp) (a b : E) | cmp2 (a : E) (o1 : Cp) (b : E) (o2 : Cp) (c : E) | inTop (a : E) (n : N)
  | not (a : E) | neg (a : E) | and (l : List E) | or (l : List E) | ite (c a b : E)
  | tup (l : List E) | lst (l : List E) | glst (l : List E) | glist (a : E) | log | dic0 | dict (ks : List N) (l : List E)
  | attr (a : E) (n : N) | idx (a i : E) | slice (a : E) (lo hi : List E)
  | call (f : N) (l : List E) | new (c : N) (l : List E) | meth (a : E) (m : N) (l : List E) | bi (b : Bi) (l : List E)
  | comp (e : E) (ts : List Nat) (pk rg : Bool) (it : List E) (c : List E)
inductive T where
  | var (i : Nat) | attr (a : E) (n : N) | idx (a i : E)
inductive S where
  | any
  | asg (t : T) (e : E) | par (ts : List T) (es : List E) | parV (is : List Nat) (es : List E) | parOwn (is : List Nat) (k : Nat) (es : List E) | unp (is : List Nat) (e : E)
  | aug (t : T) (e : E) | ex (e : E) | iff (c : E) (a b : List S) | for (ts : List Nat) (pk rg : Bool) (it : List E) (b : List S)
  | wh (c : E) (b : List S) | ret (e : E) | retn | try (b : List S)
  | own (i : Nat) | ownB (i : Nat) (e : E) | app (i : Nat) (e : E) | setB (i : Nat) (k e : E) | frz | retB (i : Nat)
  | asgC (i : Nat) (e : E) (ts : List Nat) (pk rg : Bool) (it : List E) (c : List E)
structure Fn where
  np : Nat
  nl : Nat
  names : List String
  body : List S
noncomputable def lim : Nat := 1000000
noncomputable abbrev Slots := List (Option V)
inductive Ow where | lst (l : List D) | byt (l : List UInt8)
noncomputable abbrev CF := N → N → List V → Store → (V → Store → Prop) → Prop
noncomputable def slotOf : Slots → Nat → Option V
  | [] => fun _ => .none
  | v :: r => fun i => i.casesOn v (slotOf r)
noncomputable def init : List V → Nat → Slots
  | [] => fun k => List.replicate k .none
  | v :: r => fun k => some v :: init r k
noncomputable def slotSet : Slots → Nat → V → Slots
  | [] => fun _ _ => []
  | w :: r => fun i v => i.casesOn (some v :: r) fun i => w :: slotSet r i v
structure Call (cf : CF) (c f : N) (vs : List V) (S : Store) (P : V → Store → Prop) : Prop where
  h : cf c f vs S P
noncomputable def onS {α : Type} (o : Option α) (P : α → Prop) : Prop := @Option.rec α (fun _ => Prop) False P o
noncomputable def Get (S : Store) (i : Nat) (P : Cell → Prop) : Prop := onS S[i]? P
theorem Get.h {S : Store} {i : Nat} {P : Cell → Prop} (g : Get S i P) : ∃ c, S[i]? = some c ∧ P c := match h : S[i]?, (show @Option.rec Cell (fun _ => Prop) False P S[i]? from g) with
  | none, e => e.elim
  | some c, k => ⟨c, rfl, k⟩
noncomputable def Br (t : Bool) (A B : Prop) : Prop := @Bool.rec (fun _ => Prop) B A t
noncomputable def ifT (b : Bool) (P : Prop) : Prop := @Bool.rec (fun _ => Prop) False P b
noncomputable def asD (v : V) (P : D → Prop) : Prop := V.casesOn v P fun _ => False
noncomputable def asA (v : V) (P : Nat → Prop) : Prop := V.casesOn v (fun _ => False) P
noncomputable def asI (v : V) (P : Int → Prop) : Prop := asD v fun d => D.casesOn d False (fun _ => False) P (fun _ => False) (fun _ => False) (fun _ => False) (fun _ => False)
noncomputable def asB (v : V) (P : Bool → Prop) : Prop := asD v fun d => D.casesOn d False P (fun _ => False) (fun _ => False) (fun _ => False) (fun _ => False) (fun _ => False)
noncomputable def asS (v : V) (P : N → Prop) : Prop := asD v fun d => D.casesOn d False (fun _ => False) (fun _ => False) P (fun _ => False) (fun _ => False) (fun _ => False)
noncomputable def asY (v : V) (P : List UInt8 → Prop) : Prop := asD v fun d => D.casesOn d False (fun _ => False) (fun _ => False) (fun _ => False) P (fun _ => False) (fun _ => False)
noncomputable def asT (v : V) (P : List D → Prop) : Prop := asD v fun d => D.casesOn d False (fun _ => False) (fun _ => False) (fun _ => False) (fun _ => False) P (fun _ => False)
noncomputable def asL (v : V) (P : List D → Prop) : Prop := asD v fun d => D.casesOn d False (fun _ => False) (fun _ => False) (fun _ => False) (fun _ => False) (fun _ => False) P
noncomputable def asQ (v : V) (P : List D → Prop) : Prop := asD v fun d => D.casesOn d False (fun _ => False) (fun _ => False) (fun _ => False) (fun _ => False) P P
noncomputable def asK (v : V) (P : Key → Prop) : Prop := asD v fun d => D.casesOn d False (fun _ => False) (fun i => P (.i i)) (fun n => P (.s n)) (fun _ => False) (fun _ => False) (fun _ => False)
noncomputable def asInst (c : Cell) (P : N → List (N × V) → Prop) : Prop := Cell.casesOn c (fun _ => False) (fun _ => False) (fun _ => False) (fun _ => False) P
noncomputable def asDic (c : Cell) (P : List (Key × V) → Prop) : Prop := Cell.casesOn c (fun _ => False) (fun _ => False) P P fun _ _ => False
noncomputable def one {α : Type} (l : List α) (P : α → Prop) : Prop := l.casesOn False fun a r => r.casesOn (P a) fun _ _ => False
noncomputable def two {α : Type} (l : List α) (P : α → α → Prop) : Prop := l.casesOn False fun a r => one r (P a)
noncomputable def addP (x y : V) (P : D → Prop) : Prop := asD x fun d => D.casesOn d False (fun _ => False) (fun a => asI y fun b => P (.int (a + b))) (fun a => asS y fun b => onS (look2 a b catT) fun n => P (.str n))
  (fun a => asY y fun b => a.length + b.length ≤ lim ∧ P (.bytes (a ++ b))) (fun _ => False) (fun a => asL y fun b => a.length + b.length ≤ lim ∧ P (.lst (a ++ b)))
noncomputable def binP (o : Op) (x y : V) (P : D → Prop) : Prop := Op.casesOn o (addP x y P)
  (asI x fun a => asI y fun b => P (.int (a - b)))
  (asI x fun a => asI y fun b => (-1000000 < a ∧ a < 4294967296 ∧ -1000000 < b ∧ b < 4294967296) ∧ P (.int (a * b)))
  (asI x fun a => asI y fun b => (0 < b ∧ b < 4294967296) ∧ P (.int (a / b)))
  (asI x fun a => asI y fun b => 0 < b ∧ P (.int (a % b)))
  (asI x fun a => asI y fun b => (0 ≤ a ∧ a ≤ 3 ∧ 0 ≤ b ∧ b ≤ 62) ∧ P (.int (a * 2 ^ b.toNat)))
  (asI x fun a => asI y fun b => (0 ≤ a ∧ a < 256 ∧ b = 8) ∧ P (.int 0))
  (asI x fun a => asI y fun b => (a = 0 ∧ 0 ≤ b) ∧ P (.int b))
noncomputable def eqP (x y : V) (P : Bool → Prop) : Prop := asD x fun d => D.casesOn d
  (asD y fun e => D.casesOn e (P true) (fun _ => False) (fun _ => P false) (fun _ => False) (fun _ => False) (fun _ => False) (fun _ => False))
  (fun _ => False)
  (fun a => asD y fun e => D.casesOn e (P false) (fun _ => False) (fun b => P (decide (a = b))) (fun _ => False) (fun _ => False) (fun _ => False) (fun _ => False))
  (fun a => asS y fun b => P (decide (a = b)))
  (fun a => asY y fun b => P (decide (a = b)))
  (fun _ => False)
  (fun a => asL y fun b => a.casesOn (b.casesOn (P true) fun _ _ => P false) fun _ _ => b.casesOn (P false) fun _ _ => False)
noncomputable def isN (v : V) : Bool := V.casesOn v (fun d => D.casesOn d true (fun _ => false) (fun _ => false) (fun _ => false) (fun _ => false) (fun _ => false) (fun _ => false)) fun _ => false
noncomputable def asN (v : V) (P : Prop) : Prop := asD v fun d => D.casesOn d P (fun _ => False) (fun _ => False) (fun _ => False) (fun _ => False) (fun _ => False) (fun _ => False)
noncomputable def strIn (n : N) : List D → Option Bool
  | [] => some false
  | d :: r => D.casesOn d .none (fun _ => .none) (fun _ => .none) (fun m => (strIn n r).map fun b => decide (m = n) || b) (fun _ => .none) (fun _ => .none) (fun _ => .none)
noncomputable def intIn (i : Int) : List D → Option Bool
  | [] => some false
  | d :: r => D.casesOn d .none (fun _ => .none) (fun m => (intIn i r).map fun b => decide (m = i) || b) (fun _ => .none) (fun _ => .none) (fun _ => .none) (fun _ => .none)
noncomputable def lookK (k : Key) : List (Key × V) → Option V
  | [] => none
  | p :: r => if p.1 = k then some p.2 else lookK k r
noncomputable def putK (k : Key) (v : V) : List (Key × V) → List (Key × V)
  | [] => [(k, v)]
  | p :: r => if p.1 = k then (k, v) :: r else p :: putK k v r
noncomputable def putN (k : N) (v : V) : List (N × V) → List (N × V)
  | [] => [(k, v)]
  | p :: r => bif Nat.beq p.1 k then (k, v) :: r else p :: putN k v r
noncomputable def delK (k : Key) : List (Key × V) → List (Key × V)
  | [] => []
  | p :: r => if p.1 = k then r else p :: delK k r
noncomputable def keysIn (n : N) : List N → Bool
  | [] => false
  | m :: r => Nat.beq m n || keysIn n r
noncomputable def inP (x y : V) (S : Store) (P : Bool → Prop) : Prop := V.casesOn y (fun e => asT (.d e) fun l => asD x fun d => D.casesOn d False (fun _ => False) (fun i => onS (intIn i l) P) (fun n => onS (strIn n l) P) (fun _ => False) (fun _ => False) (fun _ => False))
  fun j => asI x fun k => Get S j fun c => asDic c fun l => P (lookK (.i k) l).isSome
noncomputable def cmpP (o : Cp) (x y : V) (S : Store) (P : Bool → Prop) : Prop := Cp.casesOn o (eqP x y P) (eqP x y fun b => P (!b))
  (asI x fun a => asI y fun b => P (decide (a < b))) (asI x fun a => asI y fun b => P (decide (a ≤ b)))
  (asI x fun a => asI y fun b => P (decide (b < a))) (asI x fun a => asI y fun b => P (decide (b ≤ a)))
  (asN y (P (isN x))) (asN y (P (!isN x))) (inP x y S P) (inP x y S fun b => P (!b))
noncomputable def idxP (x y : V) (S : Store) (P : V → Prop) : Prop := V.casesOn x (fun d => asQ (.d d) fun l => asI y fun i => (0 ≤ i ∧ i < 1000000) ∧ onS l[i.toNat]? fun z => P (.d z))
  fun j => Get S j fun c => Cell.casesOn c (fun l => asI y fun i => (0 ≤ i ∧ i < 1000000) ∧ onS l[i.toNat]? P) (fun _ => False)
    (fun l => asK y fun k => onS (lookK k l) P) (fun l => asK y fun k => onS (lookK k l) P) fun _ _ => False
noncomputable def bndP (l : List V) (P : Option Nat → Prop) : Prop := l.casesOn (P none) fun v r => one (v :: r) fun v => asI v fun i => 0 ≤ i ∧ P (some i.toNat)
noncomputable def cutL {α : Type} (l : List α) (lo hi : Option Nat) : List α := hi.casesOn (lo.casesOn l l.drop) fun b => lo.casesOn (l.take b) (l.take b).drop
noncomputable def sliceP (x : V) (lo hi : List V) (P : D → Prop) : Prop := bndP lo fun a => bndP hi fun b => asD x fun d => D.casesOn d False (fun _ => False) (fun _ => False) (fun _ => False)
  (fun l => l.length ≤ lim ∧ P (.bytes (cutL l a b))) (fun _ => False) (fun l => l.length ≤ lim ∧ P (.lst (cutL l a b)))
noncomputable def asInts : List D → Option (List Int)
  | [] => some []
  | d :: r => D.casesOn d .none (fun _ => .none) (fun i => (asInts r).map (i :: ·)) (fun _ => .none) (fun _ => .none) (fun _ => .none) (fun _ => .none)
noncomputable def insI (a : Int) : List Int → List Int
  | [] => [a]
  | b :: r => if a < b then a :: b :: r else b :: insI a r
noncomputable def sortI : List Int → List Int
  | [] => []
  | a :: r => insI a (sortI r)
noncomputable def keyOf (d : D) : Option (Int × D) := D.casesOn d .none (fun _ => .none) (fun _ => .none) (fun _ => .none) (fun _ => .none) (fun l => l.casesOn .none fun e r => D.casesOn e .none (fun _ => .none) (fun i => some (i, .tup (.int i :: r))) (fun _ => .none) (fun _ => .none) (fun _ => .none) (fun _ => .none)) (fun _ => .none)
noncomputable def keyed : List D → Option (List (Int × D))
  | [] => some []
  | d :: t => (keyOf d).bind fun p => (keyed t).map (p :: ·)
noncomputable def goc {α : Type} (lt : Nat → Nat → Option Bool) : KasT α → Option α
  | .ret a => some a
  | .ask i j k => (lt i j).bind fun b => goc lt (k b)
noncomputable def ltP (k : List (Int × D)) (i j : Nat) : Option Bool := k[i]?.bind fun a => k[j]?.bind fun b => if a.1 = b.1 then none else some (decide (a.1 < b.1))
noncomputable def picks (k : List (Int × D)) : List Nat → Option (List D)
  | [] => some []
  | i :: r => k[i]?.bind fun a => (picks k r).map (a.2 :: ·)
noncomputable def sortP (k : List (Int × D)) : Option (List D) := if k.length < 2 then some (k.map (·.2)) else (goc (ltP k) (kas_sort k.length)).bind fun p => picks k p.toList
noncomputable def toB : List Int → Option (List UInt8)
  | [] => some []
  | i :: r => if 0 ≤ i ∧ i < 256 then (toB r).map (i.toNat.toUInt8 :: ·) else none
noncomputable def joined : List D → Option (List UInt8)
  | [] => some []
  | d :: r => D.casesOn d .none (fun _ => .none) (fun _ => .none) (fun _ => .none) (fun l => (joined r).map (l ++ ·)) (fun _ => .none) (fun _ => .none)
noncomputable def placeOf (i : Int) : List D → Option Nat
  | [] => none
  | d :: r => D.casesOn d .none (fun _ => .none) (fun m => if m = i then some 0 else (placeOf i r).map (· + 1)) (fun _ => .none) (fun _ => .none) (fun _ => .none) (fun _ => .none)
noncomputable def biP (b : Bi) (l : List V) (S : Store) (P : D → Prop) : Prop := Bi.casesOn b
  (one l fun v => asD v fun d => D.casesOn d False (fun _ => False) (fun _ => False) (fun _ => False) (fun l => l.length ≤ lim ∧ P (.int l.length)) (fun _ => False) (fun l => l.length ≤ lim ∧ P (.int l.length)))
  (two l fun v w => asI v fun a => asI w fun b => P (.int (min a b)))
  (two l fun v w => asI v fun a => asI w fun b => P (.int (max a b)))
  (one l fun v => asI v fun a => P (.int a.natAbs))
  (one l fun v => asL v fun l => onS (asInts l) fun k => P (.int k.sum))
  (one l fun v => V.casesOn v (fun d => asL (.d d) fun l => onS (keyed l) fun k => l.length < 64 ∧ onS (sortP k) fun r => P (.lst r))
    fun i => Get S i fun c => asDic c fun l => onS (asInts (l.map (·.1.d))) fun k => l.length ≤ 2 ∧ P (.lst ((sortI k).map .int)))
  (one l fun v => asD v fun d => D.casesOn d False (fun _ => False) (fun _ => False) (fun _ => False) (fun l => P (.bytes l)) (fun _ => False) (fun l => l.length ≤ lim ∧ onS (asInts l) fun k => onS (toB k) fun b => P (.bytes b)))
  (one l fun v => asD v fun d => D.casesOn d False (fun b => P (.int (@Bool.rec (fun _ => Int) 0 1 b))) (fun i => P (.int i)) (fun _ => False) (fun _ => False) (fun _ => False) (fun _ => False))
  (one l fun v => asL v fun l => l.length ≤ lim ∧ P (.lst l))
noncomputable def rngL (a : Int) : Nat → List D
  | 0 => []
  | n + 1 => .int a :: rngL (a + 1) n
noncomputable def rngD (a : Int) : Nat → List D
  | 0 => []
  | n + 1 => .int a :: rngD (a - 1) n
noncomputable def small (i : Int) : Prop := -1000000000 < i ∧ i < 1000000000
noncomputable def rngP (l : List V) (P : List D → Prop) : Prop := l.casesOn False fun u l => asI u fun a => l.casesOn (small a ∧ P (rngL 0 a.toNat)) fun v l => asI v fun b => l.casesOn ((small a ∧ small b) ∧ P (rngL a (b - a).toNat))
  fun w l => asI w fun c => l.casesOn ((c = -1 ∧ small a ∧ small b) ∧ P (rngD a (a - b).toNat)) fun _ _ => False
noncomputable def dats : List V → Option (List D)
  | [] => some []
  | v :: r => V.casesOn v (fun x => (dats r).map (x :: ·)) fun _ => none
inductive Src where | items (l : List D) | keys (i : Nat) (l : List (Key × V))
noncomputable def srcP (rg : Bool) (l : List V) (S : Store) (P : Src → Prop) : Prop := @Bool.rec (fun _ => Prop) (one l fun v => V.casesOn v (fun d => asQ (.d d) fun l => P (.items l))
  fun i => Get S i fun c => Cell.casesOn c (fun _ => False) (fun _ => False) (fun l => P (.keys i l)) (fun _ => False) fun _ _ => False) (rngP l fun l => P (.items l)) rg
noncomputable def setVs : List Nat → List V → Slots → Slots
  | [] => fun _ r => r
  | i :: is => fun vs r => vs.casesOn r fun v vs => setVs is vs (slotSet r i v)
noncomputable def bindP (ts : List Nat) (pk : Bool) (d : D) (r : Slots) (P : Slots → Prop) : Prop := @Bool.rec (fun _ => Prop) (one ts fun i => P (slotSet r i (.d d))) (asT (.d d) fun l => ts.length = l.length ∧ P (setVs ts (l.map .d) r)) pk
noncomputable def logP (i n : Nat) (l : List V) (S : Store) (P : V → Store → Prop) : Prop := one l fun _ => n < lim ∧ P (.d .none) (S.set i (.log (n + 1)))
noncomputable def dicP (i : Nat) (kv : List (Key × V)) (m : N) (l : List V) (S : Store) (P : V → Store → Prop) : Prop :=
  bif Nat.beq m N.x_get then l.casesOn False fun k l => asI k fun k => l.casesOn (P ((lookK (.i k) kv).getD (.d .none)) S) fun x l => l.casesOn (P ((lookK (.i k) kv).getD x) S) fun _ _ => False
  else ifT (Nat.beq m N.x_pop) <| one l fun k => asI k fun k => kv.length ≤ lim ∧ onS (lookK (.i k) kv) fun v => P v (S.set i (.dict (delK (.i k) kv)))
noncomputable abbrev PV := V → Store → Prop
noncomputable abbrev PL := List V → Store → Prop
noncomputable abbrev EF := Store → PV → Prop
noncomputable abbrev LF := Store → PL → Prop
noncomputable def compL (f : D → Store → (Option D → Store → Prop) → Prop) : List D → Store → (List D → Store → Prop) → Prop
  | [] => fun S P => P [] S
  | d :: r => fun S P => f d S fun o S1 => compL f r S1 fun l S2 => P (o.casesOn l (· :: l)) S2
structure Cmp (f : D → Store → (Option D → Store → Prop) → Prop) (l : List D) (S : Store) (P : List D → Store → Prop) : Prop where
  h : compL f l S P
noncomputable def kComp (P : PV) (l : List D) (S : Store) : Prop := P (.d (.lst l)) S
noncomputable def kCompK (i : Nat) (kv : List (Key × V)) (P : PV) (l : List D) (S : Store) : Prop := P (.d (.lst l)) (S.set i (.dict kv))
noncomputable def compP (f : D → Store → (Option D → Store → Prop) → Prop) (S : Store) (P : PV) (src : Src) : Prop := Src.casesOn src
  (fun l => l.length ≤ lim ∧ Cmp f l S (kComp P)) fun i l => l.length ≤ lim ∧ Cmp f (l.map (·.1.d)) (S.set i (.lock l)) (kCompK i l P)
noncomputable def kv (P : PV) (s : Store) (v : V) : Prop := P v s
noncomputable def kd (P : PV) (s : Store) (d : D) : Prop := P (.d d) s
noncomputable def kb (P : PV) (s : Store) (b : Bool) : Prop := P (.d (.bool b)) s
noncomputable def kBin2 (o : Op) (x : V) (P : PV) (y : V) (s : Store) : Prop := binP o x y (kd P s)
noncomputable def kBin (o : Op) (f : EF) (P : PV) (x : V) (s : Store) : Prop := f s (kBin2 o x P)
noncomputable def kCmp2 (o : Cp) (x : V) (P : PV) (y : V) (s : Store) : Prop := cmpP o x y s (kb P s)
noncomputable def kCmp (o : Cp) (f : EF) (P : PV) (x : V) (s : Store) : Prop := f s (kCmp2 o x P)
noncomputable def kC3 (o2 : Cp) (g : EF) (y : V) (P : PV) (s : Store) (t : Bool) : Prop := Br t (g s (kCmp2 o2 y P)) (P (.d (.bool false)) s)
noncomputable def kC2 (o1 o2 : Cp) (g : EF) (x : V) (P : PV) (y : V) (s : Store) : Prop := cmpP o1 x y s (kC3 o2 g y P s)
noncomputable def kC1 (o1 o2 : Cp) (f g : EF) (P : PV) (x : V) (s : Store) : Prop := f s (kC2 o1 o2 g x P)
noncomputable def kTop (n : N) (P : PV) (x : V) (s : Store) : Prop := asS x fun m => P (.d (.bool (keysIn m (topKeys n)))) s
noncomputable def kNot (P : PV) (x : V) (s : Store) : Prop := asB x fun b => P (.d (.bool (!b))) s
noncomputable def kNeg (P : PV) (x : V) (s : Store) : Prop := asI x fun i => P (.d (.int (-i))) s
noncomputable def kIte (f g : EF) (P : PV) (x : V) (s : Store) : Prop := asB x fun t => Br t (f s P) (g s P)
noncomputable def kAnd (f : EF) (P : PV) (x : V) (s : Store) : Prop := asB x fun t => Br t (f s P) (P (.d (.bool false)) s)
noncomputable def kOr (f : EF) (P : PV) (x : V) (s : Store) : Prop := asB x fun t => Br t (P (.d (.bool true)) s) (f s P)
noncomputable def kTup (P : PV) (vs : List V) (s : Store) : Prop := onS (dats vs) fun ds => P (.d (.tup ds)) s
noncomputable def kLst (P : PV) (vs : List V) (s : Store) : Prop := onS (dats vs) fun ds => P (.d (.lst ds)) s
noncomputable def kGlst (P : PV) (vs : List V) (s : Store) : Prop := P (.loc s.length) (s ++ [.lst vs])
noncomputable def kGlist (P : PV) (x : V) (s : Store) : Prop := asL x fun l => l.length ≤ lim ∧ P (.loc s.length) (s ++ [.lst (l.map .d)])
noncomputable def kDict (ks : List N) (i : Nat) (P : PV) (vs : List V) (s : Store) : Prop := P (.loc i) (s.set i (.dict ((ks.map .s).zip vs)))
noncomputable def kAttr2 (n : N) (P : PV) (s : Store) (c : Cell) : Prop := asInst c fun _ l => onS (look n l) (kv P s)
noncomputable def kAttr (n : N) (P : PV) (x : V) (s : Store) : Prop := asA x fun i => Get s i (kAttr2 n P s)
noncomputable def kIdx2 (x : V) (P : PV) (y : V) (s : Store) : Prop := idxP x y s (kv P s)
noncomputable def kIdx (f : EF) (P : PV) (x : V) (s : Store) : Prop := f s (kIdx2 x P)
noncomputable def kSl3 (x : V) (y : List V) (P : PV) (z : List V) (s : Store) : Prop := sliceP x y z (kd P s)
noncomputable def kSl2 (x : V) (g : LF) (P : PV) (y : List V) (s : Store) : Prop := g s (kSl3 x y P)
noncomputable def kSl (f g : LF) (P : PV) (x : V) (s : Store) : Prop := f s (kSl2 x g P)
noncomputable def kCall (cf : CF) (f : N) (P : PV) (vs : List V) (s : Store) : Prop := Call cf .x_law f vs s P
noncomputable def kNew2 (i : Nat) (P : PV) (v : V) (s : Store) : Prop := asN v (P (.loc i) s)
noncomputable def kNew (cf : CF) (c : N) (P : PV) (vs : List V) (s : Store) : Prop := Call cf c .x___init__ (.loc s.length :: vs) (s ++ [.inst c []]) (kNew2 s.length P)
noncomputable def kJoin (P : PV) (vs : List V) (s : Store) : Prop := one vs fun v => asL v fun xs => onS (joined xs) fun b => (b.length ≤ lim ∧ xs.length ≤ lim) ∧ P (.d (.bytes b)) s
noncomputable def kIndex (xs : List D) (P : PV) (vs : List V) (s : Store) : Prop := one vs fun v => asI v fun i => onS (placeOf i xs) fun (n : Nat) => P (.d (.int n)) s
noncomputable def kMD (d : D) (m : N) (f : LF) (P : PV) (s : Store) : Prop := D.casesOn d False (fun _ => False) (fun _ => False) (fun _ => False)
  (fun b => b.casesOn (ifT (Nat.beq m N.x_join) (f s (kJoin P))) fun _ _ => False) (fun xs => ifT (Nat.beq m N.x_index) (f s (kIndex xs P))) fun _ => False
noncomputable def kML2 (i : Nat) (P : PV) (vs : List V) (s : Store) (c : Cell) : Prop := Cell.casesOn c (fun _ => False) (fun n => logP i n vs s P) (fun _ => False) (fun _ => False) fun _ _ => False
noncomputable def kML (i : Nat) (P : PV) (vs : List V) (s : Store) : Prop := Get s i (kML2 i P vs s)
noncomputable def kMK2 (i : Nat) (m : N) (P : PV) (vs : List V) (s : Store) (c : Cell) : Prop := Cell.casesOn c (fun _ => False) (fun _ => False) (fun kv => dicP i kv m vs s P) (fun _ => False) fun _ _ => False
noncomputable def kMK (i : Nat) (m : N) (P : PV) (vs : List V) (s : Store) : Prop := Get s i (kMK2 i m P vs s)
noncomputable def kMI (cf : CF) (c m : N) (i : Nat) (P : PV) (vs : List V) (s : Store) : Prop := Call cf c m (.loc i :: vs) s P
noncomputable def known (c m : N) : Bool := (look2 c m fnK).isSome
noncomputable def kMeth2 (cf : CF) (m : N) (f : LF) (P : PV) (i : Nat) (s : Store) (c : Cell) : Prop := Cell.casesOn c (fun _ => False) (fun _ => ifT (Nat.beq m N.x_append) (f s (kML i P)))
  (fun _ => ifT (Nat.beq m N.x_get || Nat.beq m N.x_pop) (f s (kMK i m P))) (fun _ => False) fun c _ => ifT (known c m) (f s (kMI cf c m i P))
noncomputable def kMeth (cf : CF) (m : N) (f : LF) (P : PV) (x : V) (s : Store) : Prop := V.casesOn x (fun d => kMD d m f P s) fun i => Get s i (kMeth2 cf m f P i s)
noncomputable def kBi (b : Bi) (P : PV) (vs : List V) (s : Store) : Prop := biP b vs s (kd P s)
noncomputable def unset (r : Slots) : List Nat → Bool
  | [] => true
  | i :: is => (slotOf r i).isNone && unset r is
noncomputable def kElt2 (P : Option D → Store → Prop) (x : V) (s : Store) : Prop := asD x fun x => P (some x) s
noncomputable def kElt (f : EF) (P : Option D → Store → Prop) (t : Bool) (s : Store) : Prop := Br t (f s (kElt2 P)) (P none s)
noncomputable def elt (f : Slots → EF) (g : Slots → Store → (Bool → Store → Prop) → Prop) (ts : List Nat) (pk : Bool) (r : Slots) (d : D) (s : Store) (P : Option D → Store → Prop) : Prop := bindP ts pk d r fun r => g r s (kElt (f r) P)
noncomputable def kSrc (f : D → Store → (Option D → Store → Prop) → Prop) (rg : Bool) (P : PV) (vs : List V) (s : Store) : Prop := srcP rg vs s (compP f s P)
noncomputable def kTest (P : Bool → Store → Prop) (x : V) (s : Store) : Prop := asB x fun b => P b s
noncomputable def kCons2 (x : V) (P : PL) (vs : List V) (s : Store) : Prop := P (x :: vs) s
noncomputable def kCons (f : LF) (P : PL) (x : V) (s : Store) : Prop := f s (kCons2 x P)
mutual
noncomputable def wE (cf : CF) : E → Slots → EF
  | .any => fun _ _ _ => False
  | .cst d => fun _ s P => P (.d d) s
  | .var i => fun r s P => onS (slotOf r i) (kv P s)
  | .gcon n => fun _ s P => onS (look n gconT) (kd P s)
  | .bin o a b => fun r s P => wE cf a r s (kBin o (wE cf b r) P)
  | .cmp o a b => fun r s P => wE cf a r s (kCmp o (wE cf b r) P)
  | .cmp2 a o1 b o2 c => fun r s P => wE cf a r s (kC1 o1 o2 (wE cf b r) (wE cf c r) P)
  | .inTop a n => fun r s P => wE cf a r s (kTop n P)
  | .not a => fun r s P => wE cf a r s (kNot P)
  | .neg a => fun r s P => wE cf a r s (kNeg P)
  | .and l => wAnd cf l
  | .or l => wOr cf l
  | .ite c a b => fun r s P => wE cf c r s (kIte (wE cf a r) (wE cf b r) P)
  | .tup l => fun r s P => wL cf l r s (kTup P)
  | .lst l => fun r s P => wL cf l r s (kLst P)
  | .glst l => fun r s P => wL cf l r s (kGlst P)
  | .glist a => fun r s P => wE cf a r s (kGlist P)
  | .log => fun _ s P => P (.loc s.length) (s ++ [.log 0])
  | .dic0 => fun _ s P => P (.loc s.length) (s ++ [.dict []])
  | .dict ks l => fun r s P => wL cf l r (s ++ [.lock []]) (kDict ks s.length P)
  | .attr a n => fun r s P => wE cf a r s (kAttr n P)
  | .idx a i => fun r s P => wE cf a r s (kIdx (wE cf i r) P)
  | .slice a lo hi => fun r s P => wE cf a r s (kSl (wL cf lo r) (wL cf hi r) P)
  | .call f l => fun r s P => ifT (known .x_law f) (wL cf l r s (kCall cf f P))
  | .new c l => fun r s P => ifT (known c .x___init__) (wL cf l r s (kNew cf c P))
  | .meth a m l => fun r s P => wE cf a r s (kMeth cf m (wL cf l r) P)
  | .bi b l => fun r s P => wL cf l r s (kBi b P)
  | .comp e ts pk rg it c => fun r s P => ifT (unset r ts) (wL cf it r s (kSrc (elt (wE cf e) (wC cf c) ts pk r) rg P))
noncomputable def wC (cf : CF) : List E → Slots → Store → (Bool → Store → Prop) → Prop
  | [] => fun _ s P => P true s
  | e :: _ => fun r s P => wE cf e r s (kTest P)
noncomputable def wL (cf : CF) : List E → Slots → LF
  | [] => fun _ s P => P [] s
  | e :: l => fun r s P => wE cf e r s (kCons (wL cf l r) P)
noncomputable def wAnd (cf : CF) : List E → Slots → EF
  | [] => fun _ s P => P (.d (.bool true)) s
  | e :: l => fun r s P => wE cf e r s (kAnd (wAnd cf l r) P)
noncomputable def wOr (cf : CF) : List E → Slots → EF
  | [] => fun _ s P => P (.d (.bool false)) s
  | e :: l => fun r s P => wE cf e r s (kOr (wOr cf l r) P)
end
noncomputable abbrev OO := Option (Nat × Ow)
noncomputable def freeO (o : OO) (i : Nat) : Bool := o.casesOn true fun p => !Nat.beq p.1 i
noncomputable abbrev K := Slots → OO → Store → Prop
noncomputable abbrev BF := Slots → OO → Store → K → PV → Prop
noncomputable abbrev KS := Slots → Store → Prop
noncomputable def putC (y v : V) (c : Cell) (P : Cell → Prop) : Prop := Cell.casesOn c (fun l => asI y fun i => (0 ≤ i ∧ i < l.length ∧ i < 1000000) ∧ P (.lst (l.set i.toNat v))) (fun _ => False)
  (fun l => asK y fun k => l.length ≤ lim ∧ P (.dict (putK k v l))) (fun _ => False) fun _ _ => False
noncomputable def kPA2 (n : N) (v : V) (r : Slots) (s : Store) (i : Nat) (Q : KS) (c : Cell) : Prop := asInst c fun c l => ifT (keysIn n (attrsOf c)) (Q r (s.set i (.inst c (putN n v l))))
noncomputable def kPA (n : N) (v : V) (r : Slots) (Q : KS) (x : V) (s : Store) : Prop := asA x fun i => Get s i (kPA2 n v r s i Q)
noncomputable def kPI3 (y v : V) (r : Slots) (s : Store) (j : Nat) (Q : KS) (c : Cell) : Prop := putC y v c fun z => Q r (s.set j z)
noncomputable def kPI2 (x v : V) (r : Slots) (Q : KS) (y : V) (s : Store) : Prop := asA x fun j => Get s j (kPI3 y v r s j Q)
noncomputable def kPI (f : EF) (v : V) (r : Slots) (Q : KS) (x : V) (s : Store) : Prop := f s (kPI2 x v r Q)
noncomputable def putP (cf : CF) (t : T) (v : V) (r : Slots) (o : OO) (s : Store) (Q : KS) : Prop := T.casesOn t (fun i => ifT (freeO o i) (Q (slotSet r i v) s))
  (fun a n => wE cf a r s (kPA n v r Q)) fun a k => wE cf a r s (kPI (wE cf k r) v r Q)
noncomputable def putsP (cf : CF) (o : OO) : List T → List V → Slots → Store → KS → Prop
  | [] => fun vs r s Q => vs.casesOn (Q r s) fun _ _ => False
  | t :: ts => fun vs r s Q => vs.casesOn False fun v vs => putP cf t v r o s (putsP cf o ts vs · · Q)
noncomputable def kUA4 (n : N) (z : Int) (i : Nat) (s : Store) (Q : Store → Prop) (c : Cell) : Prop := asInst c fun c l => ifT (keysIn n (attrsOf c)) (Q (s.set i (.inst c (putN n (.d (.int z)) l))))
noncomputable def kUA3 (n : N) (p : Int) (i : Nat) (Q : Store → Prop) (y : V) (s : Store) : Prop := asI y fun q => Get s i (kUA4 n (p + q) i s Q)
noncomputable def kUA2 (n : N) (f : EF) (i : Nat) (s : Store) (Q : Store → Prop) (c : Cell) : Prop := asInst c fun _ l => onS (look n l) fun u => asI u fun p => f s (kUA3 n p i Q)
noncomputable def kUA (n : N) (f : EF) (Q : Store → Prop) (x : V) (s : Store) : Prop := asA x fun i => Get s i (kUA2 n f i s Q)
noncomputable def kUI5 (i z : Int) (j : Nat) (s : Store) (Q : Store → Prop) (c : Cell) : Prop := Cell.casesOn c (fun l => i < l.length ∧ Q (s.set j (.lst (l.set i.toNat (.d (.int z)))))) (fun _ => False) (fun _ => False) (fun _ => False) fun _ _ => False
noncomputable def kUI4 (i p : Int) (j : Nat) (Q : Store → Prop) (y : V) (s : Store) : Prop := asI y fun q => Get s j (kUI5 i (p + q) j s Q)
noncomputable def kUI3 (i : Int) (j : Nat) (f : EF) (s : Store) (Q : Store → Prop) (c : Cell) : Prop := Cell.casesOn c (fun l => (0 ≤ i ∧ i < 1000000) ∧ onS l[i.toNat]? fun u => asI u fun p => f s (kUI4 i p j Q)) (fun _ => False) (fun _ => False) (fun _ => False) fun _ _ => False
noncomputable def kUI2 (x : V) (f : EF) (Q : Store → Prop) (y : V) (s : Store) : Prop := asA x fun j => asI y fun i => Get s j (kUI3 i j f s Q)
noncomputable def kUI (g f : EF) (Q : Store → Prop) (x : V) (s : Store) : Prop := g s (kUI2 x f Q)
noncomputable def augP (cf : CF) (t : T) (f : EF) (r : Slots) (s : Store) (Q : Store → Prop) : Prop := T.casesOn t (fun _ => False)
  (fun a n => wE cf a r s (kUA n f Q)) fun a k => wE cf a r s (kUI (wE cf k r) f Q)
noncomputable def forL (f : D → Slots → OO → Store → K → Prop) : List D → Slots → OO → Store → K → Prop
  | [] => fun r o s Q => Q r o s
  | d :: l => fun r o s Q => f d r o s fun r o s => forL f l r o s Q
noncomputable def whL (f : Slots → OO → Store → K → K → Prop) : Nat → Slots → OO → Store → K → Prop
  | 0 => fun _ _ _ _ => False
  | n + 1 => fun r o s Q => f r o s (fun r o s => whL f n r o s Q) Q
structure For (f : D → Slots → OO → Store → K → Prop) (l : List D) (r : Slots) (o : OO) (s : Store) (Q : K) : Prop where
  h : forL f l r o s Q
structure Whl (f : Slots → OO → Store → K → K → Prop) (r : Slots) (o : OO) (s : Store) (Q : K) : Prop where
  h : whL f lim r o s Q
noncomputable def kFK (i : Nat) (l : List (Key × V)) (Q : K) (r : Slots) (o : OO) (s : Store) : Prop := Q r o (s.set i (.dict l))
noncomputable def forP (f : D → Slots → OO → Store → K → Prop) (r : Slots) (o : OO) (s : Store) (Q : K) (src : Src) : Prop := Src.casesOn src (fun l => For f l r o s Q)
  fun i l => For f (l.map (·.1.d)) r o (s.set i (.lock l)) (kFK i l Q)
noncomputable def noO (o : OO) (P : Prop) : Prop := o.casesOn P fun _ => False
noncomputable def ownL (o : OO) (i : Nat) (P : List D → Prop) : Prop := o.casesOn False fun p => ifT (Nat.beq p.1 i) (Ow.casesOn p.2 P fun _ => False)
noncomputable def ownY (o : OO) (i : Nat) (P : List UInt8 → Prop) : Prop := o.casesOn False fun p => ifT (Nat.beq p.1 i) (Ow.casesOn p.2 (fun _ => False) P)
noncomputable def lone (o : Option V) (P : Prop) : Prop := o.casesOn P fun _ => False
noncomputable def kQ (o : OO) (Q : K) (r : Slots) (s : Store) : Prop := Q r o s
noncomputable def kAsg (cf : CF) (t : T) (r : Slots) (o : OO) (Q : K) (v : V) (s : Store) : Prop := putP cf t v r o s (kQ o Q)
noncomputable def kPar (cf : CF) (ts : List T) (r : Slots) (o : OO) (Q : K) (vs : List V) (s : Store) : Prop := putsP cf o ts vs r s (kQ o Q)
noncomputable def kParV (is : List Nat) (r : Slots) (o : OO) (Q : K) (vs : List V) (s : Store) : Prop := ifT (is.all (freeO o) && Nat.beq is.length vs.length) (Q (setVs is vs r) o s)
noncomputable def kParO (is : List Nat) (k : Nat) (r : Slots) (Q : K) (vs : List V) (s : Store) : Prop := onS is[k]? fun i => lone (slotOf r i) (ifT (Nat.beq (is.eraseIdx k).length vs.length) (Q (setVs (is.eraseIdx k) vs r) (some (i, .lst [])) s))
noncomputable def kUnp (is : List Nat) (r : Slots) (o : OO) (Q : K) (v : V) (s : Store) : Prop := asQ v fun l => ifT (is.all (freeO o)) (is.length = l.length ∧ Q (setVs is (l.map .d) r) o s)
noncomputable def kAug (r : Slots) (o : OO) (Q : K) (s : Store) : Prop := Q r o s
noncomputable def kEx (r : Slots) (o : OO) (Q : K) (_ : V) (s : Store) : Prop := Q r o s
noncomputable def kIf (f g : BF) (r : Slots) (o : OO) (Q : K) (R : PV) (x : V) (s : Store) : Prop := asB x fun t => Br t (f r o s Q R) (g r o s Q R)
noncomputable def forF (f : BF) (ts : List Nat) (pk : Bool) (R : PV) (d : D) (r : Slots) (o : OO) (s : Store) (Q : K) : Prop := ifT (ts.all (freeO o)) (bindP ts pk d r fun r => f r o s Q R)
noncomputable def kFor (f : D → Slots → OO → Store → K → Prop) (rg : Bool) (r : Slots) (o : OO) (Q : K) (vs : List V) (s : Store) : Prop := srcP rg vs s (forP f r o s Q)
noncomputable def kWh (f : BF) (r : Slots) (o : OO) (Q : K) (R : PV) (Q' : K) (x : V) (s : Store) : Prop := asB x fun t => Br t (f r o s Q R) (Q' r o s)
noncomputable def whF (c : Slots → EF) (f : BF) (R : PV) (r : Slots) (o : OO) (s : Store) (Q Q' : K) : Prop := c r s (kWh f r o Q R Q')
noncomputable def kOwnB (i : Nat) (r : Slots) (Q : K) (v : V) (s : Store) : Prop := asI v fun n => (0 ≤ n ∧ n ≤ 8) ∧ Q r (some (i, .byt (List.replicate n.toNat 0))) s
noncomputable def kApp (i : Nat) (l : List D) (r : Slots) (Q : K) (v : V) (s : Store) : Prop := asD v fun d => l.length < lim ∧ Q r (some (i, .lst (l ++ [d]))) s
noncomputable def kSB2 (i : Nat) (v : V) (l : List UInt8) (r : Slots) (Q : K) (y : V) (s : Store) : Prop := asI v fun x => asI y fun j => (0 ≤ x ∧ x < 256 ∧ 0 ≤ j ∧ j < l.length ∧ l.length ≤ lim) ∧ Q r (some (i, .byt (l.set j.toNat x.toNat.toUInt8))) s
noncomputable def kSB (f : EF) (i : Nat) (r : Slots) (o : OO) (Q : K) (v : V) (s : Store) : Prop := ownY o i fun l => f s (kSB2 i v l r Q)
noncomputable def kB (f : BF) (Q : K) (R : PV) (r : Slots) (o : OO) (s : Store) : Prop := f r o s Q R
mutual
noncomputable def wS (cf : CF) : S → BF
  | .any => fun _ _ _ _ _ => False
  | .asg t e => fun r o s Q _ => wE cf e r s (kAsg cf t r o Q)
  | .par ts es => fun r o s Q _ => wL cf es r s (kPar cf ts r o Q)
  | .parV is es => fun r o s Q _ => wL cf es r s (kParV is r o Q)
  | .parOwn is k es => fun r o s Q _ => noO o (wL cf es r s (kParO is k r Q))
  | .unp is e => fun r o s Q _ => wE cf e r s (kUnp is r o Q)
  | .aug t e => fun r o s Q _ => augP cf t (wE cf e r) r s (kAug r o Q)
  | .ex e => fun r o s Q _ => wE cf e r s (kEx r o Q)
  | .iff c a b => fun r o s Q R => wE cf c r s (kIf (wB cf a) (wB cf b) r o Q R)
  | .for ts pk rg it b => fun r o s Q R => wL cf it r s (kFor (forF (wB cf b) ts pk R) rg r o Q)
  | .wh c b => fun r o s Q R => Whl (whF (wE cf c) (wB cf b) R) r o s Q
  | .ret e => fun r _ s _ R => wE cf e r s R
  | .retn => fun _ _ s _ R => R (.d .none) s
  | .try b => wB cf b
  | .own i => fun r o s Q _ => noO o (lone (slotOf r i) (Q r (some (i, .lst [])) s))
  | .ownB i e => fun r o s Q _ => noO o (lone (slotOf r i) (wE cf e r s (kOwnB i r Q)))
  | .app i e => fun r o s Q _ => ownL o i fun l => wE cf e r s (kApp i l r Q)
  | .setB i k e => fun r o s Q _ => wE cf e r s (kSB (wE cf k r) i r o Q)
  | .frz => fun r o s Q _ => o.casesOn False fun p => Ow.casesOn p.2 (fun l => Q (slotSet r p.1 (.d (.lst l))) none s) fun _ => False
  | .retB i => fun _ o s _ R => ownY o i fun l => l.length ≤ lim ∧ R (.d (.bytes l)) s
  | .asgC i e ts pk rg it c => fun r o s Q _ => wE cf (.comp e ts pk rg it c) r s (kAsg cf (.var i) r o Q)
noncomputable def wB (cf : CF) : List S → BF
  | [] => fun r o s Q _ => Q r o s
  | a :: l => fun r o s Q R => wS cf a r o s (kB (wB cf l) Q R) R
end
noncomputable def kEnd (Q : PV) (_ : Slots) (_ : OO) (s : Store) : Prop := Q (.d .none) s
noncomputable def f_put_whole : Fn := ⟨2, 2, ["n", "size", "found", "place"], [
  .iff (.or [.cmp .lt (.var 0) (.cst (.int 0)), .cmp .ne (.bin .shr (.var 0) (.bin .mul (.cst (.int 8)) (.var 1))) (.cst (.int 0))]) [.any] [],
  .ownB 2 (.var 1),
  .for [3] false true [.bin .sub (.var 1) (.cst (.int 1)), .neg (.cst (.int 1)), .neg (.cst (.int 1))] [.setB 2 (.var 3) (.bin .mod (.var 0) (.cst (.int 256))), .asg (.var 0) (.bin .fdiv (.var 0) (.cst (.int 256)))],
  .retB 2]⟩
noncomputable def f_varint_size : Fn := ⟨1, 1, ["n", "size"], [
  .for [1] false false [.gcon N.x_VARINT_SIZES] [.iff (.cmp2 (.cst (.int 0)) .le (.var 0) .lt (.bin .shl (.cst (.int 1)) (.bin .sub (.bin .mul (.cst (.int 8)) (.var 1)) (.cst (.int 2))))) [.ret (.var 1)] []],
  .any]⟩
noncomputable def f_put_varint : Fn := ⟨2, 1, ["n", "size", "least"], [
  .asg (.var 2) (.call N.x_varint_size [.var 0]),
  .iff (.cmp .is (.var 1) (.cst .none)) [.asg (.var 1) (.var 2)] [],
  .iff (.or [.cmp .lt (.var 1) (.var 2), .cmp .notin (.var 1) (.gcon N.x_VARINT_SIZES)]) [.any] [],
  .ret (.call N.x_put_whole [.bin .bor (.bin .shl (.meth (.gcon N.x_VARINT_SIZES) N.x_index [.var 1]) (.bin .sub (.bin .mul (.cst (.int 8)) (.var 1)) (.cst (.int 2)))) (.var 0), .var 1])]⟩
noncomputable def f_put_numbers : Fn := ⟨1, 1, ["numbers", "#number"], [
  .ret (.meth (.cst (.bytes [])) N.x_join [.comp (.call N.x_put_varint [.var 1, .cst .none]) [1] false false [.var 0] []])]⟩
noncomputable def f_put_counted : Fn := ⟨1, 0, ["data"], [
  .ret (.bin .add (.call N.x_put_varint [.bi .len [.var 0], .cst .none]) (.var 0))]⟩
noncomputable def f_put_stream : Fn := ⟨2, 7, ["f", "is_last", "told", "head", "kind", "number", "offset", "data", "fin"], [
  .unp [4, 5, 6, 7, 8] (.var 0),
  .asg (.var 2) (.bin .add (.bin .add (.bin .add (.gcon N.x_STREAM) (.ite (.var 8) (.gcon N.x_BIT_FIN) (.cst (.int 0)))) (.ite (.var 1) (.cst (.int 0)) (.gcon N.x_BIT_LENGTH))) (.ite (.cmp .gt (.var 6) (.cst (.int 0))) (.gcon N.x_BIT_OFFSET) (.cst (.int 0)))),
  .asg (.var 3) (.call N.x_put_numbers [.bin .add (.lst [.var 2, .var 5]) (.ite (.cmp .gt (.var 6) (.cst (.int 0))) (.lst [.var 6]) (.lst []))]),
  .ret (.bin .add (.var 3) (.ite (.var 1) (.var 7) (.call N.x_put_counted [.var 7])))]⟩
noncomputable def f_put_frame : Fn := ⟨1, 2, ["f", "kind", "found"], [
  .asg (.var 1) (.idx (.var 0) (.cst (.int 0))),
  .iff (.cmp .eq (.var 1) (.cst (.str N.x_padding))) [.ret (.bi .bytes [.bin .mul (.lst [.cst (.int 0)]) (.idx (.var 0) (.cst (.int 1)))])] [],
  .iff (.inTop (.var 1) N.x_NUMBER_FRAMES) [.ret (.call N.x_put_numbers [.bin .add (.lst [.any]) (.bi .list [.slice (.var 0) [.cst (.int 1)] []])])] [],
  .iff (.cmp .eq (.var 1) (.cst (.str N.x_ack))) [.ret (.any)] [],
  .iff (.cmp .eq (.var 1) (.cst (.str N.x_stream))) [.ret (.call N.x_put_stream [.var 0, .cst (.bool false)])] [],
  .iff (.cmp .eq (.var 1) (.cst (.str N.x_new_connection_id))) [.ret (.any)] [],
  .iff (.cmp .eq (.var 1) (.cst (.str N.x_close))) [.ret (.any)] [],
  .asg (.var 2) (.any),
  .iff (.cmp .is (.var 2) (.cst .none)) [.any] [],
  .ret (.var 2)]⟩
noncomputable def f_frame_size : Fn := ⟨1, 0, ["f"], [
  .ret (.bi .len [.call N.x_put_frame [.var 0]])]⟩
noncomputable def f_stream_room : Fn := ⟨3, 1, ["number", "offset", "most", "head"], [
  .asg (.var 3) (.bi .len [.call N.x_put_numbers [.bin .add (.lst [.gcon N.x_STREAM, .var 0]) (.ite (.cmp .gt (.var 1) (.cst (.int 0))) (.lst [.var 1]) (.lst []))]]),
  .ret (.bi .max [.cst (.int 0), .bin .sub (.bin .sub (.var 2) (.var 3)) (.bi .len [.call N.x_put_varint [.bi .max [.var 2, .cst (.int 0)], .cst .none]])])]⟩
noncomputable def f_add_piece : Fn := ⟨3, 9, ["pieces", "offset", "data", "found", "begin", "joined", "start", "octets", "end", "last", "ahead", "behind"], [
  .iff (.cmp .eq (.bi .len [.var 2]) (.cst (.int 0))) [.ret (.bi .list [.var 0])] [],
  .parOwn [3, 4, 5] 0 [.var 1, .bi .bytes [.var 2]],
  .for [6, 7] true false [.var 0] [.parV [8, 9] [.bin .add (.var 6) (.bi .len [.var 7]), .bin .add (.var 4) (.bi .len [.var 5])], .iff (.or [.cmp .lt (.var 8) (.var 4), .cmp .lt (.var 9) (.var 6)]) [.app 3 (.tup [.var 6, .var 7])] [.asg (.var 10) (.slice (.var 5) [] [.bi .max [.cst (.int 0), .bin .sub (.var 6) (.var 4)]]), .asg (.var 11) (.slice (.var 5) [.bi .max [.cst (.int 0), .bin .sub (.var 8) (.var 4)]] []), .parV [4, 5] [.bi .min [.var 4, .var 6], .bin .add (.bin .add (.var 10) (.var 7)) (.var 11)]]],
  .frz,
  .ret (.bi .sorted [.bin .add (.var 3) (.lst [.tup [.var 4, .var 5]])])]⟩
noncomputable def f_taken_from : Fn := ⟨2, 4, ["pieces", "at", "found", "left", "start", "octets"], [
  .parOwn [2, 3] 1 [.cst (.bytes [])],
  .for [4, 5] true false [.var 0] [.iff (.cmp2 (.var 4) .le (.var 1) .lt (.bin .add (.var 4) (.bi .len [.var 5]))) [.asg (.var 2) (.slice (.var 5) [.bin .sub (.var 1) (.var 4)] [])] [.iff (.cmp .gt (.var 4) (.var 1)) [.app 3 (.tup [.var 4, .var 5])] []]],
  .frz,
  .ret (.tup [.var 2, .var 3])]⟩
noncomputable def f_covered : Fn := ⟨1, 2, ["pieces", "#start", "#octets"], [
  .ret (.comp (.tup [.var 1, .bin .add (.var 1) (.bi .len [.var 2])]) [1, 2] true false [.var 0] [])]⟩
noncomputable def f_add_span : Fn := ⟨3, 4, ["spans", "low", "high", "found", "is_put", "one", "other"], [
  .iff (.cmp .ge (.var 1) (.var 2)) [.ret (.bi .list [.var 0])] [],
  .parOwn [3, 4] 0 [.cst (.bool false)],
  .for [5, 6] true false [.var 0] [.iff (.cmp .lt (.var 6) (.var 1)) [.app 3 (.tup [.var 5, .var 6])] [.iff (.cmp .lt (.var 2) (.var 5)) [.iff (.not (.var 4)) [.app 3 (.tup [.var 1, .var 2]), .asg (.var 4) (.cst (.bool true))] [], .app 3 (.tup [.var 5, .var 6])] [.parV [1, 2] [.bi .min [.var 1, .var 5], .bi .max [.var 2, .var 6]]]]],
  .frz,
  .ret (.ite (.var 4) (.var 3) (.bin .add (.var 3) (.lst [.tup [.var 1, .var 2]])))]⟩
noncomputable def f_cut_span : Fn := ⟨3, 3, ["spans", "low", "high", "found", "one", "other"], [
  .own 3,
  .for [4, 5] true false [.var 0] [.iff (.cmp .lt (.var 4) (.bi .min [.var 5, .var 1])) [.app 3 (.tup [.var 4, .bi .min [.var 5, .var 1]])] [], .iff (.cmp .lt (.bi .max [.var 4, .var 2]) (.var 5)) [.app 3 (.tup [.bi .max [.var 4, .var 2], .var 5])] []],
  .frz,
  .ret (.ite (.cmp .lt (.var 1) (.var 2)) (.var 3) (.bi .list [.var 0]))]⟩
noncomputable def f_has_span : Fn := ⟨3, 2, ["spans", "low", "high", "one", "other"], [
  .iff (.cmp .ge (.var 1) (.var 2)) [.ret (.cst (.bool true))] [],
  .for [3, 4] true false [.var 0] [.iff (.and [.cmp .le (.var 3) (.var 1), .cmp .le (.var 2) (.var 4)]) [.ret (.cst (.bool true))] []],
  .ret (.cst (.bool false))]⟩
noncomputable def f_first_span : Fn := ⟨2, 2, ["spans", "most", "low", "high"], [
  .iff (.or [.cmp .eq (.bi .len [.var 0]) (.cst (.int 0)), .cmp .le (.var 1) (.cst (.int 0))]) [.ret (.cst .none)] [],
  .unp [2, 3] (.idx (.var 0) (.cst (.int 0))),
  .ret (.tup [.var 2, .bi .min [.var 3, .bin .add (.var 2) (.var 1)]])]⟩
noncomputable def f_without_spans : Fn := ⟨2, 3, ["spans", "others", "found", "low", "high"], [
  .asg (.var 2) (.bi .list [.var 0]),
  .for [3, 4] true false [.var 1] [.asg (.var 2) (.call N.x_cut_span [.var 2, .var 3, .var 4])],
  .ret (.var 2)]⟩
noncomputable def f_stream_id : Fn := ⟨3, 0, ["number", "opener", "is_uni"], [
  .ret (.bin .add (.bin .add (.bin .mul (.cst (.int 4)) (.var 0)) (.ite (.cmp .eq (.var 1) (.gcon N.x_SERVER)) (.cst (.int 1)) (.cst (.int 0)))) (.ite (.var 2) (.cst (.int 2)) (.cst (.int 0))))]⟩
noncomputable def f_number_of : Fn := ⟨1, 0, ["sid"], [
  .ret (.bin .fdiv (.var 0) (.cst (.int 4)))]⟩
noncomputable def f_opener_of : Fn := ⟨1, 0, ["sid"], [
  .ret (.ite (.cmp .eq (.bin .mod (.var 0) (.cst (.int 2))) (.cst (.int 1))) (.gcon N.x_SERVER) (.gcon N.x_CLIENT))]⟩
noncomputable def f_is_one_way : Fn := ⟨1, 0, ["sid"], [
  .ret (.cmp .eq (.bin .mod (.bin .fdiv (.var 0) (.cst (.int 2))) (.cst (.int 2))) (.cst (.int 1)))]⟩
noncomputable def f_can_send : Fn := ⟨2, 0, ["sid", "role"], [
  .ret (.or [.not (.call N.x_is_one_way [.var 0]), .cmp .eq (.call N.x_opener_of [.var 0]) (.var 1)])]⟩
noncomputable def f_can_receive : Fn := ⟨2, 0, ["sid", "role"], [
  .ret (.or [.not (.call N.x_is_one_way [.var 0]), .cmp .ne (.call N.x_opener_of [.var 0]) (.var 1)])]⟩
noncomputable def f_own_window : Fn := ⟨3, 0, ["params", "role", "sid"], [
  .iff (.call N.x_is_one_way [.var 2]) [.ret (.idx (.var 0) (.cst (.str N.x_initial_max_stream_data_uni)))] [],
  .iff (.cmp .eq (.call N.x_opener_of [.var 2]) (.var 1)) [.ret (.idx (.var 0) (.cst (.str N.x_initial_max_stream_data_bidi_local)))] [],
  .ret (.idx (.var 0) (.cst (.str N.x_initial_max_stream_data_bidi_remote)))]⟩
noncomputable def f_peer_window : Fn := ⟨3, 0, ["params", "role", "sid"], [
  .iff (.cmp .is (.var 0) (.cst .none)) [.ret (.cst (.int 0))] [],
  .iff (.call N.x_is_one_way [.var 2]) [.ret (.idx (.var 0) (.cst (.str N.x_initial_max_stream_data_uni)))] [],
  .iff (.cmp .eq (.call N.x_opener_of [.var 2]) (.var 1)) [.ret (.idx (.var 0) (.cst (.str N.x_initial_max_stream_data_bidi_remote)))] [],
  .ret (.idx (.var 0) (.cst (.str N.x_initial_max_stream_data_bidi_local)))]⟩
noncomputable def f__law_draw : Fn := ⟨2, 2, ["pool", "many", "script", "cell"], [
  .asg (.var 2) (.idx (.var 0) (.cst (.int 1))),
  .asg (.var 3) (.ite (.cmp .ne (.var 2) (.lst [])) (.bi .abs [.idx (.var 2) (.bin .mod (.idx (.var 0) (.cst (.int 2))) (.bi .len [.var 2]))]) (.cst (.int 23))),
  .asg (.idx (.var 0) (.cst (.int 2))) (.bin .add (.idx (.var 0) (.cst (.int 2))) (.cst (.int 1))),
  .asg (.idx (.var 0) (.cst (.int 0))) (.bin .mod (.bin .add (.bin .add (.bin .mul (.idx (.var 0) (.cst (.int 0))) (.cst (.int 48271))) (.bin .mod (.var 3) (.cst (.int 1000003)))) (.cst (.int 31))) (.cst (.int 2147483647))),
  .ret (.bin .mod (.bin .fdiv (.idx (.var 0) (.cst (.int 0))) (.cst (.int 13))) (.var 1))]⟩
noncomputable def f__law_params : Fn := ⟨1, 2, ["pool", "told", "name"], [
  .asg (.var 1) (.dict [N.x_initial_max_data, N.x_initial_max_streams_bidi, N.x_initial_max_streams_uni] [.bin .add (.cst (.int 5)) (.call N.x__law_draw [.var 0, .cst (.int 12)]), .cst (.int 1), .cst (.int 1)]),
  .for [2] false false [.tup [.cst (.str N.x_bidi_local), .cst (.str N.x_bidi_remote), .cst (.str N.x_uni)]] [.asg (.idx (.var 1) (.bin .add (.cst (.str N.x_initial_max_stream_data_)) (.var 2))) (.bin .add (.cst (.int 3)) (.call N.x__law_draw [.var 0, .cst (.int 9)]))],
  .ret (.var 1)]⟩
noncomputable def f__law_world : Fn := ⟨1, 9, ["pool", "tells", "hosts", "turn", "written", "limits", "is_uni", "sid", "data", "#octet"], [
  .asg (.var 1) (.glst [.call N.x__law_params [.var 0], .call N.x__law_params [.var 0]]),
  .asg (.var 2) (.glst [.new N.x_StreamSet [.cst (.str N.x_client), .idx (.var 1) (.cst (.int 0))], .new N.x_StreamSet [.cst (.str N.x_server), .idx (.var 1) (.cst (.int 1))]]),
  .ex (.meth (.idx (.var 2) (.cst (.int 0))) N.x_on_params [.idx (.var 1) (.cst (.int 1))]),
  .ex (.meth (.idx (.var 2) (.cst (.int 1))) N.x_on_params [.idx (.var 1) (.cst (.int 0))]),
  .parV [4, 5] [.dic0, .dict [N.x_all] [.idx (.idx (.var 1) (.cst (.int 1))) (.cst (.str N.x_initial_max_data))]],
  .for [3] false true [.bin .add (.cst (.int 1)) (.call N.x__law_draw [.var 0, .cst (.int 2)])] [.asg (.var 6) (.ite (.cmp .eq (.var 3) (.cst (.int 0))) (.cmp .eq (.call N.x__law_draw [.var 0, .cst (.int 2)]) (.cst (.int 1))) (.cmp .isin (.cst (.int 2)) (.var 4))), .asg (.var 7) (.meth (.idx (.var 2) (.cst (.int 0))) N.x_open_stream [.ite (.cmp .eq (.var 3) (.cst (.int 1))) (.not (.var 6)) (.var 6)]), .asg (.var 8) (.bi .bytes [.comp (.call N.x__law_draw [.var 0, .cst (.int 256)]) [9] false true [.call N.x__law_draw [.var 0, .cst (.int 14)]] []]), .asg (.idx (.var 4) (.var 7)) (.var 8), .asg (.idx (.var 5) (.var 7)) (.idx (.idx (.var 1) (.cst (.int 1))) (.ite (.cmp .eq (.bin .mod (.var 7) (.cst (.int 4))) (.cst (.int 2))) (.cst (.str N.x_initial_max_stream_data_uni)) (.cst (.str N.x_initial_max_stream_data_bidi_remote)))), .ex (.meth (.meth (.idx (.var 2) (.cst (.int 0))) N.x_sender [.var 7]) N.x_write [.var 8]), .ex (.meth (.meth (.idx (.var 2) (.cst (.int 0))) N.x_sender [.var 7]) N.x_finish [])],
  .ret (.dict [N.x_hosts, N.x_written, N.x_read, N.x_over, N.x_limits, N.x_sent, N.x_flying] [.var 2, .var 4, .dic0, .dic0, .var 5, .dic0, .lst []])]⟩
noncomputable def f__law_is_within : Fn := ⟨2, 3, ["world", "frame", "end", "sent", "#sid"], [
  .parV [2, 3] [.bin .add (.idx (.var 1) (.cst (.int 2))) (.bi .len [.idx (.var 1) (.cst (.int 3))]), .idx (.var 0) (.cst (.str N.x_sent))],
  .asg (.idx (.var 3) (.idx (.var 1) (.cst (.int 1)))) (.bi .max [.meth (.var 3) N.x_get [.idx (.var 1) (.cst (.int 1)), .cst (.int 0)], .var 2]),
  .ret (.and [.cmp .le (.var 2) (.idx (.idx (.var 0) (.cst (.str N.x_limits))) (.idx (.var 1) (.cst (.int 1)))), .cmp .le (.bi .sum [.comp (.idx (.var 3) (.var 4)) [4] false false [.var 3] []]) (.idx (.idx (.var 0) (.cst (.str N.x_limits))) (.cst (.str N.x_all)))])]⟩
noncomputable def f__law_goes : Fn := ⟨3, 3, ["world", "host", "room", "frames", "frame", "#one"], [
  .asg (.var 3) (.meth (.idx (.idx (.var 0) (.cst (.str N.x_hosts))) (.var 1)) N.x_control_frames []),
  .asg (.var 4) (.meth (.idx (.idx (.var 0) (.cst (.str N.x_hosts))) (.var 1)) N.x_next_data [.var 2]),
  .iff (.cmp .isnot (.var 4) (.cst .none)) [.asg (.var 3) (.bin .add (.var 3) (.lst [.var 4])), .iff (.or [.not (.call N.x__law_is_within [.var 0, .var 4]), .cmp .ne (.idx (.var 4) (.cst (.int 3))) (.slice (.idx (.idx (.var 0) (.cst (.str N.x_written))) (.idx (.var 4) (.cst (.int 1)))) [.idx (.var 4) (.cst (.int 2))] [.bin .add (.idx (.var 4) (.cst (.int 2))) (.bi .len [.idx (.var 4) (.cst (.int 3))])])]) [.ret (.cst (.bool false))] []] [],
  .asg (.idx (.var 0) (.cst (.str N.x_flying))) (.bin .add (.idx (.var 0) (.cst (.str N.x_flying))) (.comp (.lst [.var 1, .var 5, .cst (.bool true)]) [5] false false [.var 3] [])),
  .ret (.cst (.bool true))]⟩
noncomputable def f__law_arrives : Fn := ⟨3, 4, ["world", "place", "is_kept", "rest", "host", "frame", "is_first"], [
  .unp [4, 5, 6] (.idx (.idx (.var 0) (.cst (.str N.x_flying))) (.var 1)),
  .ex (.meth (.idx (.idx (.var 0) (.cst (.str N.x_hosts))) (.bin .sub (.cst (.int 1)) (.var 4))) N.x_on_frame [.var 5]),
  .iff (.var 6) [.ex (.meth (.idx (.idx (.var 0) (.cst (.str N.x_hosts))) (.var 4)) N.x_on_acked [.var 5])] [],
  .iff (.and [.cmp .eq (.idx (.var 5) (.cst (.int 0))) (.cst (.str N.x_max_data)), .cmp .eq (.var 4) (.cst (.int 1))]) [.asg (.idx (.idx (.var 0) (.cst (.str N.x_limits))) (.cst (.str N.x_all))) (.bi .max [.idx (.idx (.var 0) (.cst (.str N.x_limits))) (.cst (.str N.x_all)), .idx (.var 5) (.cst (.int 1))])] [],
  .iff (.and [.cmp .eq (.idx (.var 5) (.cst (.int 0))) (.cst (.str N.x_max_stream_data)), .cmp .eq (.var 4) (.cst (.int 1))]) [.asg (.idx (.idx (.var 0) (.cst (.str N.x_limits))) (.idx (.var 5) (.cst (.int 1)))) (.bi .max [.idx (.idx (.var 0) (.cst (.str N.x_limits))) (.idx (.var 5) (.cst (.int 1))), .idx (.var 5) (.cst (.int 2))])] [],
  .asg (.var 3) (.bin .add (.slice (.idx (.var 0) (.cst (.str N.x_flying))) [] [.var 1]) (.slice (.idx (.var 0) (.cst (.str N.x_flying))) [.bin .add (.var 1) (.cst (.int 1))] [])),
  .asg (.idx (.var 0) (.cst (.str N.x_flying))) (.ite (.var 2) (.bin .add (.var 3) (.lst [.lst [.var 4, .var 5, .cst (.bool false)]])) (.var 3))]⟩
noncomputable def f__law_is_lost : Fn := ⟨2, 3, ["world", "place", "host", "frame", "is_first"], [
  .unp [2, 3, 4] (.idx (.idx (.var 0) (.cst (.str N.x_flying))) (.var 1)),
  .iff (.var 4) [.ex (.meth (.idx (.idx (.var 0) (.cst (.str N.x_hosts))) (.var 2)) N.x_on_lost [.var 3])] [],
  .asg (.idx (.var 0) (.cst (.str N.x_flying))) (.bin .add (.slice (.idx (.var 0) (.cst (.str N.x_flying))) [] [.var 1]) (.slice (.idx (.var 0) (.cst (.str N.x_flying))) [.bin .add (.var 1) (.cst (.int 1))] []))]⟩
noncomputable def f__law_reads : Fn := ⟨2, 3, ["world", "most", "sid", "data", "is_over"], [
  .for [2] false false [.idx (.var 0) (.cst (.str N.x_written))] [.iff (.and [.cmp .isin (.var 2) (.attr (.idx (.idx (.var 0) (.cst (.str N.x_hosts))) (.cst (.int 1))) N.x_readers), .not (.meth (.idx (.var 0) (.cst (.str N.x_over))) N.x_get [.var 2, .cst (.bool false)])]) [.unp [3, 4] (.meth (.idx (.idx (.var 0) (.cst (.str N.x_hosts))) (.cst (.int 1))) N.x_read_from [.var 2, .var 1]), .asg (.idx (.idx (.var 0) (.cst (.str N.x_read))) (.var 2)) (.bin .add (.meth (.idx (.var 0) (.cst (.str N.x_read))) N.x_get [.var 2, .cst (.bytes [])]) (.var 3)), .asg (.idx (.idx (.var 0) (.cst (.str N.x_over))) (.var 2)) (.var 4), .iff (.cmp .ne (.slice (.idx (.idx (.var 0) (.cst (.str N.x_written))) (.var 2)) [] [.bi .len [.idx (.idx (.var 0) (.cst (.str N.x_read))) (.var 2)]]) (.idx (.idx (.var 0) (.cst (.str N.x_read))) (.var 2))) [.ret (.cst (.bool false))] [], .iff (.and [.var 4, .cmp .ne (.idx (.idx (.var 0) (.cst (.str N.x_read))) (.var 2)) (.idx (.idx (.var 0) (.cst (.str N.x_written))) (.var 2))]) [.ret (.cst (.bool false))] []] []],
  .ret (.cst (.bool true))]⟩
noncomputable def f__law_turn : Fn := ⟨2, 2, ["world", "pool", "form", "many"], [
  .parV [2, 3] [.call N.x__law_draw [.var 1, .cst (.int 8)], .bi .len [.idx (.var 0) (.cst (.str N.x_flying))]],
  .iff (.or [.cmp .lt (.var 2) (.cst (.int 3)), .cmp .eq (.var 3) (.cst (.int 0))]) [.ret (.call N.x__law_goes [.var 0, .ite (.cmp .gt (.var 2) (.cst (.int 0))) (.cst (.int 0)) (.cst (.int 1)), .bin .add (.cst (.int 8)) (.call N.x__law_draw [.var 1, .cst (.int 12)])])] [],
  .iff (.cmp .eq (.var 2) (.cst (.int 3))) [.ret (.call N.x__law_reads [.var 0, .bin .add (.cst (.int 1)) (.call N.x__law_draw [.var 1, .cst (.int 6)])])] [],
  .iff (.cmp .lt (.var 2) (.cst (.int 6))) [.ex (.call N.x__law_arrives [.var 0, .call N.x__law_draw [.var 1, .var 3], .cmp .eq (.call N.x__law_draw [.var 1, .cst (.int 4)]) (.cst (.int 0))])] [.ex (.call N.x__law_is_lost [.var 0, .call N.x__law_draw [.var 1, .var 3]])],
  .ret (.cst (.bool true))]⟩
noncomputable def f__law_ends_well : Fn := ⟨1, 2, ["world", "turn", "#sid"], [
  .for [1] false true [.cst (.int 60)] [.iff (.or [.not (.call N.x__law_goes [.var 0, .cst (.int 0), .cst (.int 30)]), .not (.call N.x__law_goes [.var 0, .cst (.int 1), .cst (.int 30)])]) [.ret (.cst (.bool false))] [], .wh (.cmp .ne (.idx (.var 0) (.cst (.str N.x_flying))) (.lst [])) [.ex (.call N.x__law_arrives [.var 0, .cst (.int 0), .cst (.bool false)])], .iff (.not (.call N.x__law_reads [.var 0, .cst (.int 50)])) [.ret (.cst (.bool false))] [], .iff (.cmp .eq (.comp (.var 2) [2] false false [.idx (.var 0) (.cst (.str N.x_written))] [.not (.meth (.idx (.var 0) (.cst (.str N.x_over))) N.x_get [.var 2, .cst (.bool false)])]) (.lst [])) [.ret (.cst (.bool true))] []],
  .ret (.cst (.bool false))]⟩
noncomputable def f_law : Fn := ⟨1, 4, ["script", "pool", "world", "turn", "#cell"], [
  .asgC 0 (.bi .int [.var 4]) [4] false false [.slice (.var 0) [] [.cst (.int 24)]] [],
  .asg (.var 1) (.glst [.bin .mod (.bi .sum [.var 0]) (.cst (.int 2147483647)), .var 0, .cst (.int 0)]),
  .asg (.var 2) (.call N.x__law_world [.var 1]),
  .try [.iff (.not (.call N.x__law_goes [.var 2, .cst (.int 0), .cst (.int 40)])) [.ret (.cst (.bool false))] [], .ex (.call N.x__law_is_lost [.var 2, .bin .sub (.bi .len [.idx (.var 2) (.cst (.str N.x_flying))]) (.cst (.int 1))]), .for [3] false true [.bin .add (.cst (.int 4)) (.bin .fdiv (.bin .mul (.cst (.int 2)) (.bi .len [.var 0])) (.cst (.int 3)))] [.iff (.not (.call N.x__law_turn [.var 2, .var 1])) [.ret (.cst (.bool false))] []], .wh (.cmp .ne (.idx (.var 2) (.cst (.str N.x_flying))) (.lst [])) [.ex (.call N.x__law_is_lost [.var 2, .cst (.int 0)])], .ret (.call N.x__law_ends_well [.var 2])]]⟩
noncomputable def f_Credit_init : Fn := ⟨2, 0, ["self", "limit"], [
  .asg (.attr (.var 0) N.x_limit) (.var 1),
  .asg (.attr (.var 0) N.x_used) (.cst (.int 0)),
  .asg (.attr (.var 0) N.x_told_at) (.cst .none)]⟩
noncomputable def f_Credit_room : Fn := ⟨1, 0, ["self"], [
  .ret (.bin .sub (.attr (.var 0) N.x_limit) (.attr (.var 0) N.x_used))]⟩
noncomputable def f_Credit_spend : Fn := ⟨2, 0, ["self", "many"], [
  .iff (.cmp .gt (.var 1) (.meth (.var 0) N.x_room [])) [.any] [],
  .aug (.attr (.var 0) N.x_used) (.var 1)]⟩
noncomputable def f_Credit_raise_to : Fn := ⟨2, 0, ["self", "limit"], [
  .iff (.cmp .le (.var 1) (.attr (.var 0) N.x_limit)) [.ret (.cst (.bool false))] [],
  .asg (.attr (.var 0) N.x_limit) (.var 1),
  .ret (.cst (.bool true))]⟩
noncomputable def f_Credit_next_blocked : Fn := ⟨1, 0, ["self"], [
  .iff (.or [.cmp .gt (.meth (.var 0) N.x_room []) (.cst (.int 0)), .cmp .eq (.attr (.var 0) N.x_told_at) (.attr (.var 0) N.x_limit)]) [.ret (.cst .none)] [],
  .asg (.attr (.var 0) N.x_told_at) (.attr (.var 0) N.x_limit),
  .ret (.attr (.var 0) N.x_limit)]⟩
noncomputable def f_Credit_on_blocked_lost : Fn := ⟨2, 0, ["self", "limit"], [
  .iff (.cmp .eq (.attr (.var 0) N.x_told_at) (.var 1)) [.asg (.attr (.var 0) N.x_told_at) (.cst .none)] []]⟩
noncomputable def f_Window_init : Fn := ⟨2, 0, ["self", "size"], [
  .asg (.attr (.var 0) N.x_size) (.var 1),
  .asg (.attr (.var 0) N.x_limit) (.var 1),
  .asg (.attr (.var 0) N.x_got) (.cst (.int 0)),
  .asg (.attr (.var 0) N.x_used) (.cst (.int 0)),
  .asg (.attr (.var 0) N.x_owes_limit) (.cst (.bool false))]⟩
noncomputable def f_Window_on_got : Fn := ⟨2, 0, ["self", "many"], [
  .iff (.cmp .gt (.bin .add (.attr (.var 0) N.x_got) (.var 1)) (.attr (.var 0) N.x_limit)) [.any] [],
  .aug (.attr (.var 0) N.x_got) (.var 1)]⟩
noncomputable def f_Window_on_read : Fn := ⟨2, 0, ["self", "many"], [
  .aug (.attr (.var 0) N.x_used) (.var 1)]⟩
noncomputable def f_Window_next_limit : Fn := ⟨1, 1, ["self", "is_low"], [
  .asg (.var 1) (.cmp .lt (.bin .mul (.cst (.int 2)) (.bin .sub (.attr (.var 0) N.x_limit) (.attr (.var 0) N.x_used))) (.attr (.var 0) N.x_size)),
  .iff (.and [.not (.attr (.var 0) N.x_owes_limit), .not (.var 1)]) [.ret (.cst .none)] [],
  .asg (.attr (.var 0) N.x_owes_limit) (.cst (.bool false)),
  .iff (.var 1) [.asg (.attr (.var 0) N.x_limit) (.bin .add (.attr (.var 0) N.x_used) (.attr (.var 0) N.x_size))] [],
  .ret (.attr (.var 0) N.x_limit)]⟩
noncomputable def f_Window_on_limit_lost : Fn := ⟨2, 0, ["self", "limit"], [
  .iff (.cmp .eq (.var 1) (.attr (.var 0) N.x_limit)) [.asg (.attr (.var 0) N.x_owes_limit) (.cst (.bool true))] []]⟩
noncomputable def f_RecvPart_init : Fn := ⟨2, 0, ["self", "limit"], [
  .asg (.attr (.var 0) N.x_limit) (.var 1),
  .asg (.attr (.var 0) N.x_state) (.gcon N.x_RECEIVING),
  .asg (.attr (.var 0) N.x_pieces) (.lst []),
  .asg (.attr (.var 0) N.x_read_to) (.cst (.int 0)),
  .asg (.attr (.var 0) N.x_highest) (.cst (.int 0)),
  .asg (.attr (.var 0) N.x_final_size) (.cst .none),
  .asg (.attr (.var 0) N.x_reset_code) (.cst .none),
  .asg (.attr (.var 0) N.x_stop_code) (.cst .none)]⟩
noncomputable def f_RecvPart_check_end : Fn := ⟨4, 0, ["self", "end", "is_final", "frame_type"], [
  .iff (.cmp .isnot (.attr (.var 0) N.x_final_size) (.cst .none)) [.iff (.or [.cmp .gt (.var 1) (.attr (.var 0) N.x_final_size), .and [.var 2, .cmp .ne (.var 1) (.attr (.var 0) N.x_final_size)]]) [.any] []] [],
  .iff (.and [.var 2, .cmp .lt (.var 1) (.attr (.var 0) N.x_highest)]) [.any] [],
  .iff (.cmp .gt (.var 1) (.attr (.var 0) N.x_limit)) [.any] []]⟩
noncomputable def f_RecvPart_grown : Fn := ⟨2, 1, ["self", "end", "more"], [
  .asg (.var 2) (.bi .max [.cst (.int 0), .bin .sub (.var 1) (.attr (.var 0) N.x_highest)]),
  .asg (.attr (.var 0) N.x_highest) (.bin .add (.attr (.var 0) N.x_highest) (.var 2)),
  .ret (.var 2)]⟩
noncomputable def f_RecvPart_on_stream : Fn := ⟨4, 2, ["self", "offset", "data", "is_end", "end", "more"], [
  .asg (.var 4) (.bin .add (.var 1) (.bi .len [.var 2])),
  .ex (.meth (.var 0) N.x_check_end [.var 4, .var 3, .gcon N.x_FRAME_STREAM]),
  .asg (.var 5) (.meth (.var 0) N.x_grown [.var 4]),
  .iff (.var 3) [.asg (.attr (.var 0) N.x_final_size) (.var 4)] [],
  .iff (.cmp .notin (.attr (.var 0) N.x_state) (.tup [.gcon N.x_RECEIVING, .gcon N.x_SIZE_KNOWN])) [.ret (.var 5)] [],
  .iff (.and [.cmp .is (.attr (.var 0) N.x_stop_code) (.cst .none), .cmp .gt (.var 4) (.attr (.var 0) N.x_read_to)]) [.asg (.attr (.var 0) N.x_pieces) (.call N.x_add_piece [.attr (.var 0) N.x_pieces, .bi .max [.var 1, .attr (.var 0) N.x_read_to], .slice (.var 2) [.bi .max [.cst (.int 0), .bin .sub (.attr (.var 0) N.x_read_to) (.var 1)]] []])] [],
  .iff (.cmp .isnot (.attr (.var 0) N.x_final_size) (.cst .none)) [.asg (.attr (.var 0) N.x_state) (.gcon N.x_SIZE_KNOWN), .iff (.meth (.var 0) N.x_has_all []) [.asg (.attr (.var 0) N.x_state) (.gcon N.x_DATA_RECEIVED_recvpart)] []] [],
  .ret (.var 5)]⟩
noncomputable def f_RecvPart_has_all : Fn := ⟨1, 0, ["self"], [
  .ret (.and [.cmp .is (.attr (.var 0) N.x_stop_code) (.cst .none), .call N.x_has_span [.call N.x_covered [.attr (.var 0) N.x_pieces], .attr (.var 0) N.x_read_to, .attr (.var 0) N.x_final_size]])]⟩
noncomputable def f_RecvPart_read : Fn := ⟨2, 2, ["self", "most", "found", "left"], [
  .iff (.cmp .eq (.attr (.var 0) N.x_state) (.gcon N.x_RESET_RECEIVED_recvpart)) [.asg (.attr (.var 0) N.x_state) (.gcon N.x_RESET_READ)] [],
  .iff (.cmp .eq (.attr (.var 0) N.x_state) (.gcon N.x_RESET_READ)) [.ret (.tup [.cst (.bytes []), .cst (.bool true)])] [],
  .unp [2, 3] (.call N.x_taken_from [.attr (.var 0) N.x_pieces, .attr (.var 0) N.x_read_to]),
  .iff (.cmp .gt (.bi .len [.var 2]) (.var 1)) [.asg (.var 3) (.bin .add (.lst [.tup [.bin .add (.attr (.var 0) N.x_read_to) (.var 1), .slice (.var 2) [.var 1] []]]) (.var 3)), .asg (.var 2) (.slice (.var 2) [] [.var 1])] [],
  .asg (.attr (.var 0) N.x_pieces) (.var 3),
  .aug (.attr (.var 0) N.x_read_to) (.bi .len [.var 2]),
  .iff (.and [.cmp .eq (.attr (.var 0) N.x_state) (.gcon N.x_DATA_RECEIVED_recvpart), .cmp .eq (.attr (.var 0) N.x_read_to) (.attr (.var 0) N.x_final_size)]) [.asg (.attr (.var 0) N.x_state) (.gcon N.x_DATA_READ)] [],
  .ret (.tup [.var 2, .cmp .eq (.attr (.var 0) N.x_state) (.gcon N.x_DATA_READ)])]⟩
noncomputable def f_RecvPart_raise_limit : Fn := ⟨2, 0, ["self", "limit"], [
  .asg (.attr (.var 0) N.x_limit) (.bi .max [.attr (.var 0) N.x_limit, .var 1])]⟩
noncomputable def f_RecvPart_used_to : Fn := ⟨1, 0, ["self"], [
  .iff (.or [.cmp .isnot (.attr (.var 0) N.x_stop_code) (.cst .none), .cmp .isin (.attr (.var 0) N.x_state) (.tup [.gcon N.x_RESET_RECEIVED_recvpart, .gcon N.x_RESET_READ])]) [.ret (.attr (.var 0) N.x_highest)] [],
  .ret (.attr (.var 0) N.x_read_to)]⟩
noncomputable def f_SendPart_init : Fn := ⟨2, 0, ["self", "limit"], [
  .asg (.attr (.var 0) N.x_limit) (.var 1),
  .asg (.attr (.var 0) N.x_state) (.gcon N.x_READY),
  .asg (.attr (.var 0) N.x_written) (.cst (.bytes [])),
  .asg (.attr (.var 0) N.x_sent_to) (.cst (.int 0)),
  .asg (.attr (.var 0) N.x_acked) (.lst []),
  .asg (.attr (.var 0) N.x_lost) (.lst []),
  .asg (.attr (.var 0) N.x_is_finished) (.cst (.bool false)),
  .asg (.attr (.var 0) N.x_owes_end) (.cst (.bool false)),
  .asg (.attr (.var 0) N.x_is_end_acked) (.cst (.bool false)),
  .asg (.attr (.var 0) N.x_reset_code) (.cst .none),
  .asg (.attr (.var 0) N.x_owes_reset) (.cst (.bool false))]⟩
noncomputable def f_SendPart_write : Fn := ⟨2, 0, ["self", "data"], [
  .iff (.or [.cmp .notin (.attr (.var 0) N.x_state) (.gcon N.x_OPEN_STATES), .attr (.var 0) N.x_is_finished]) [.any] [],
  .asg (.attr (.var 0) N.x_written) (.bin .add (.attr (.var 0) N.x_written) (.bi .bytes [.var 1]))]⟩
noncomputable def f_SendPart_finish : Fn := ⟨1, 0, ["self"], [
  .iff (.cmp .notin (.attr (.var 0) N.x_state) (.gcon N.x_OPEN_STATES)) [.any] [],
  .iff (.not (.attr (.var 0) N.x_is_finished)) [.asg (.attr (.var 0) N.x_is_finished) (.cst (.bool true)), .asg (.attr (.var 0) N.x_owes_end) (.cst (.bool true))] []]⟩
noncomputable def f_SendPart_raise_limit : Fn := ⟨2, 0, ["self", "limit"], [
  .asg (.attr (.var 0) N.x_limit) (.bi .max [.attr (.var 0) N.x_limit, .var 1])]⟩
noncomputable def f_SendPart_new_room : Fn := ⟨2, 1, ["self", "most_new", "room"], [
  .iff (.cmp .notin (.attr (.var 0) N.x_state) (.gcon N.x_OPEN_STATES)) [.ret (.cst (.int 0))] [],
  .asg (.var 2) (.bin .sub (.bi .min [.bi .len [.attr (.var 0) N.x_written], .attr (.var 0) N.x_limit]) (.attr (.var 0) N.x_sent_to)),
  .ret (.bi .max [.cst (.int 0), .ite (.cmp .is (.var 1) (.cst .none)) (.var 2) (.bi .min [.var 2, .var 1])])]⟩
noncomputable def f_SendPart_blocked_at : Fn := ⟨1, 1, ["self", "is_blocked"], [
  .asg (.var 1) (.and [.cmp .isin (.attr (.var 0) N.x_state) (.gcon N.x_OPEN_STATES), .cmp .ge (.attr (.var 0) N.x_sent_to) (.attr (.var 0) N.x_limit), .cmp .gt (.bi .len [.attr (.var 0) N.x_written]) (.attr (.var 0) N.x_sent_to)]),
  .ret (.ite (.var 1) (.attr (.var 0) N.x_limit) (.cst .none))]⟩
noncomputable def f_SendPart_next_chunk : Fn := ⟨3, 5, ["self", "most", "most_new", "span", "is_end", "room", "low", "high"], [
  .iff (.and [.cmp .notin (.attr (.var 0) N.x_state) (.gcon N.x_OPEN_STATES), .cmp .ne (.attr (.var 0) N.x_state) (.gcon N.x_DATA_SENT)]) [.ret (.cst .none)] [],
  .asg (.var 3) (.call N.x_first_span [.attr (.var 0) N.x_lost, .var 1]),
  .iff (.cmp .is (.var 3) (.cst .none)) [.asg (.var 5) (.bi .min [.var 1, .meth (.var 0) N.x_new_room [.var 2]]), .asg (.var 3) (.tup [.attr (.var 0) N.x_sent_to, .bin .add (.attr (.var 0) N.x_sent_to) (.bi .max [.cst (.int 0), .var 5])])] [],
  .unp [6, 7] (.var 3),
  .asg (.var 4) (.and [.attr (.var 0) N.x_is_finished, .cmp .eq (.var 7) (.bi .len [.attr (.var 0) N.x_written]), .or [.attr (.var 0) N.x_owes_end, .cmp .lt (.var 6) (.var 7)]]),
  .iff (.and [.cmp .eq (.var 6) (.var 7), .not (.var 4)]) [.ret (.cst .none)] [],
  .asg (.attr (.var 0) N.x_lost) (.call N.x_cut_span [.attr (.var 0) N.x_lost, .var 6, .var 7]),
  .asg (.attr (.var 0) N.x_sent_to) (.bi .max [.attr (.var 0) N.x_sent_to, .var 7]),
  .iff (.var 4) [.asg (.attr (.var 0) N.x_owes_end) (.cst (.bool false))] [],
  .asg (.attr (.var 0) N.x_state) (.ite (.or [.var 4, .cmp .eq (.attr (.var 0) N.x_state) (.gcon N.x_DATA_SENT)]) (.gcon N.x_DATA_SENT) (.gcon N.x_SENDING)),
  .ret (.tup [.var 6, .slice (.attr (.var 0) N.x_written) [.var 6] [.var 7], .var 4])]⟩
noncomputable def f_SendPart_next_reset : Fn := ⟨1, 0, ["self"], [
  .iff (.not (.attr (.var 0) N.x_owes_reset)) [.ret (.cst .none)] [],
  .asg (.attr (.var 0) N.x_owes_reset) (.cst (.bool false)),
  .ret (.tup [.attr (.var 0) N.x_reset_code, .attr (.var 0) N.x_sent_to])]⟩
noncomputable def f_SendPart_on_acked : Fn := ⟨4, 0, ["self", "offset", "size", "is_end"], [
  .asg (.attr (.var 0) N.x_acked) (.call N.x_add_span [.attr (.var 0) N.x_acked, .var 1, .bin .add (.var 1) (.var 2)]),
  .asg (.attr (.var 0) N.x_lost) (.call N.x_cut_span [.attr (.var 0) N.x_lost, .var 1, .bin .add (.var 1) (.var 2)]),
  .iff (.var 3) [.asg (.attr (.var 0) N.x_is_end_acked) (.cst (.bool true)), .asg (.attr (.var 0) N.x_owes_end) (.cst (.bool false))] [],
  .iff (.and [.cmp .eq (.attr (.var 0) N.x_state) (.gcon N.x_DATA_SENT), .attr (.var 0) N.x_is_end_acked, .call N.x_has_span [.attr (.var 0) N.x_acked, .cst (.int 0), .bi .len [.attr (.var 0) N.x_written]]]) [.asg (.attr (.var 0) N.x_state) (.gcon N.x_DATA_RECEIVED_sendpart)] []]⟩
noncomputable def f_SendPart_on_lost : Fn := ⟨4, 2, ["self", "offset", "size", "is_end", "low", "high"], [
  .iff (.cmp .notin (.attr (.var 0) N.x_state) (.tup [.gcon N.x_SENDING, .gcon N.x_DATA_SENT])) [.retn] [],
  .for [4, 5] true false [.call N.x_without_spans [.ite (.cmp .gt (.var 2) (.cst (.int 0))) (.lst [.tup [.var 1, .bin .add (.var 1) (.var 2)]]) (.lst []), .attr (.var 0) N.x_acked]] [.asg (.attr (.var 0) N.x_lost) (.call N.x_add_span [.attr (.var 0) N.x_lost, .var 4, .var 5])],
  .iff (.and [.var 3, .not (.attr (.var 0) N.x_is_end_acked)]) [.asg (.attr (.var 0) N.x_owes_end) (.cst (.bool true))] []]⟩
noncomputable def f_StreamIds_init : Fn := ⟨4, 0, ["self", "role", "own_limits", "peer_limits"], [
  .asg (.attr (.var 0) N.x_role) (.var 1),
  .asg (.attr (.var 0) N.x_own_limits) (.glist (.var 2)),
  .asg (.attr (.var 0) N.x_peer_limits) (.glist (.var 3)),
  .asg (.attr (.var 0) N.x_own_many) (.glst [.cst (.int 0), .cst (.int 0)]),
  .asg (.attr (.var 0) N.x_peer_many) (.glst [.cst (.int 0), .cst (.int 0)]),
  .asg (.attr (.var 0) N.x_closed_many) (.glst [.cst (.int 0), .cst (.int 0)]),
  .asg (.attr (.var 0) N.x_granted) (.glist (.var 3))]⟩
noncomputable def f_StreamIds_open_own : Fn := ⟨2, 1, ["self", "is_uni", "at"], [
  .asg (.var 2) (.bi .int [.var 1]),
  .iff (.cmp .ge (.idx (.attr (.var 0) N.x_own_many) (.var 2)) (.idx (.attr (.var 0) N.x_own_limits) (.var 2))) [.ret (.cst .none)] [],
  .aug (.idx (.attr (.var 0) N.x_own_many) (.var 2)) (.cst (.int 1)),
  .ret (.call N.x_stream_id [.bin .sub (.idx (.attr (.var 0) N.x_own_many) (.var 2)) (.cst (.int 1)), .attr (.var 0) N.x_role, .var 1])]⟩
noncomputable def f_StreamIds_raise_limit : Fn := ⟨3, 0, ["self", "is_uni", "limit"], [
  .asg (.idx (.attr (.var 0) N.x_own_limits) (.bi .int [.var 1])) (.bi .max [.idx (.attr (.var 0) N.x_own_limits) (.bi .int [.var 1]), .var 2])]⟩
noncomputable def f_StreamIds_take_id : Fn := ⟨3, 6, ["self", "kind", "sid", "is_for_sender", "begin", "opener", "at", "number", "#one"], [
  .asg (.var 3) (.cmp .notin (.var 1) (.gcon N.x_SENDING_FRAMES)),
  .iff (.not (.ite (.var 3) (.call N.x_can_send [.var 2, .attr (.var 0) N.x_role]) (.call N.x_can_receive [.var 2, .attr (.var 0) N.x_role]))) [.any] [],
  .parV [6, 7] [.bi .int [.call N.x_is_one_way [.var 2]], .call N.x_number_of [.var 2]],
  .iff (.cmp .eq (.call N.x_opener_of [.var 2]) (.attr (.var 0) N.x_role)) [.iff (.cmp .ge (.var 7) (.idx (.attr (.var 0) N.x_own_many) (.var 6))) [.any] [], .ret (.lst [])] [],
  .iff (.cmp .ge (.var 7) (.idx (.attr (.var 0) N.x_peer_limits) (.var 6))) [.any] [],
  .asg (.var 4) (.idx (.attr (.var 0) N.x_peer_many) (.var 6)),
  .asg (.idx (.attr (.var 0) N.x_peer_many) (.var 6)) (.bi .max [.var 4, .bin .add (.var 7) (.cst (.int 1))]),
  .asg (.var 5) (.call N.x_opener_of [.var 2]),
  .ret (.comp (.call N.x_stream_id [.var 8, .var 5, .call N.x_is_one_way [.var 2]]) [8] false true [.var 4, .bin .add (.var 7) (.cst (.int 1))] [])]⟩
noncomputable def f_StreamIds_next_grant : Fn := ⟨2, 1, ["self", "is_uni", "at"], [
  .asg (.var 2) (.bi .int [.var 1]),
  .iff (.cmp .eq (.idx (.attr (.var 0) N.x_granted) (.var 2)) (.idx (.attr (.var 0) N.x_peer_limits) (.var 2))) [.ret (.cst .none)] [],
  .asg (.idx (.attr (.var 0) N.x_granted) (.var 2)) (.idx (.attr (.var 0) N.x_peer_limits) (.var 2)),
  .ret (.idx (.attr (.var 0) N.x_granted) (.var 2))]⟩
noncomputable def f_StreamSet_init : Fn := ⟨3, 0, ["self", "role", "params"], [
  .asg (.attr (.var 0) N.x_role) (.var 1),
  .asg (.attr (.var 0) N.x_params) (.var 2),
  .asg (.attr (.var 0) N.x_peer) (.cst .none),
  .asg (.attr (.var 0) N.x_ids) (.new N.x_StreamIds [.var 1, .lst [.cst (.int 0), .cst (.int 0)], .lst [.idx (.var 2) (.cst (.str N.x_initial_max_streams_bidi)), .idx (.var 2) (.cst (.str N.x_initial_max_streams_uni))]]),
  .asg (.attr (.var 0) N.x_credit) (.new N.x_Credit [.cst (.int 0)]),
  .asg (.attr (.var 0) N.x_window) (.new N.x_Window [.idx (.var 2) (.cst (.str N.x_initial_max_data))]),
  .asg (.attr (.var 0) N.x_senders) (.dic0),
  .asg (.attr (.var 0) N.x_readers) (.dic0),
  .asg (.attr (.var 0) N.x_windows) (.dic0),
  .asg (.attr (.var 0) N.x_owed) (.lst []),
  .asg (.attr (.var 0) N.x_blocked_at) (.dic0),
  .asg (.attr (.var 0) N.x_events) (.log),
  .asg (.attr (.var 0) N.x_over) (.dic0),
  .asg (.attr (.var 0) N.x_turn) (.cst (.int 0))]⟩
noncomputable def f_StreamSet_open_stream : Fn := ⟨2, 1, ["self", "is_uni", "sid"], [
  .asg (.var 2) (.meth (.attr (.var 0) N.x_ids) N.x_open_own [.var 1]),
  .iff (.cmp .isnot (.var 2) (.cst .none)) [.ex (.meth (.var 0) N.x_make_parts [.var 2])] [],
  .ret (.var 2)]⟩
noncomputable def f_StreamSet_make_parts : Fn := ⟨2, 1, ["self", "sid", "size"], [
  .iff (.call N.x_can_send [.var 1, .attr (.var 0) N.x_role]) [.asg (.idx (.attr (.var 0) N.x_senders) (.var 1)) (.new N.x_SendPart [.call N.x_peer_window [.attr (.var 0) N.x_peer, .attr (.var 0) N.x_role, .var 1]])] [],
  .iff (.call N.x_can_receive [.var 1, .attr (.var 0) N.x_role]) [.asg (.var 2) (.call N.x_own_window [.attr (.var 0) N.x_params, .attr (.var 0) N.x_role, .var 1]), .asg (.idx (.attr (.var 0) N.x_readers) (.var 1)) (.new N.x_RecvPart [.var 2]), .asg (.idx (.attr (.var 0) N.x_windows) (.var 1)) (.new N.x_Window [.var 2])] []]⟩
noncomputable def f_StreamSet_sender : Fn := ⟨2, 0, ["self", "sid"], [
  .iff (.cmp .notin (.var 1) (.attr (.var 0) N.x_senders)) [.any] [],
  .ret (.idx (.attr (.var 0) N.x_senders) (.var 1))]⟩
noncomputable def f_StreamSet_reader_of : Fn := ⟨2, 0, ["self", "sid"], [
  .iff (.cmp .notin (.var 1) (.attr (.var 0) N.x_readers)) [.any] [],
  .ret (.idx (.attr (.var 0) N.x_readers) (.var 1))]⟩
noncomputable def f_StreamSet_read_from : Fn := ⟨3, 1, ["self", "sid", "most", "found"], [
  .asg (.var 3) (.meth (.meth (.var 0) N.x_reader_of [.var 1]) N.x_read [.var 2]),
  .ex (.meth (.var 0) N.x_settle [.var 1]),
  .ret (.var 3)]⟩
noncomputable def f_StreamSet_settle : Fn := ⟨2, 3, ["self", "sid", "more", "part", "window"], [
  .parV [3, 4] [.idx (.attr (.var 0) N.x_readers) (.var 1), .idx (.attr (.var 0) N.x_windows) (.var 1)],
  .asg (.var 2) (.bin .sub (.meth (.var 3) N.x_used_to []) (.attr (.var 4) N.x_used)),
  .iff (.cmp .gt (.var 2) (.cst (.int 0))) [.ex (.meth (.var 4) N.x_on_read [.var 2]), .ex (.meth (.attr (.var 0) N.x_window) N.x_on_read [.var 2])] []]⟩
noncomputable def f_StreamSet_on_params : Fn := ⟨2, 1, ["self", "peer", "sid"], [
  .asg (.attr (.var 0) N.x_peer) (.var 1),
  .ex (.meth (.attr (.var 0) N.x_credit) N.x_raise_to [.idx (.var 1) (.cst (.str N.x_initial_max_data))]),
  .ex (.meth (.attr (.var 0) N.x_ids) N.x_raise_limit [.cst (.bool false), .idx (.var 1) (.cst (.str N.x_initial_max_streams_bidi))]),
  .ex (.meth (.attr (.var 0) N.x_ids) N.x_raise_limit [.cst (.bool true), .idx (.var 1) (.cst (.str N.x_initial_max_streams_uni))]),
  .for [2] false false [.attr (.var 0) N.x_senders] [.ex (.meth (.idx (.attr (.var 0) N.x_senders) (.var 2)) N.x_raise_limit [.call N.x_peer_window [.var 1, .attr (.var 0) N.x_role, .var 2]])]]⟩
noncomputable def f_StreamSet_opened_by : Fn := ⟨3, 1, ["self", "kind", "sid", "one"], [
  .for [3] false false [.meth (.attr (.var 0) N.x_ids) N.x_take_id [.var 1, .var 2]] [.ex (.meth (.var 0) N.x_make_parts [.var 3]), .ex (.meth (.attr (.var 0) N.x_events) N.x_append [.tup [.cst (.str N.x_opened), .var 3]])]]⟩
noncomputable def f_StreamSet_on_frame : Fn := ⟨2, 1, ["self", "frame", "kind"], [
  .asg (.var 2) (.idx (.var 1) (.cst (.int 0))),
  .iff (.cmp .eq (.var 2) (.cst (.str N.x_max_data))) [.ex (.meth (.attr (.var 0) N.x_credit) N.x_raise_to [.idx (.var 1) (.cst (.int 1))])] [.iff (.cmp .eq (.var 2) (.cst (.str N.x_max_streams))) [.ex (.meth (.attr (.var 0) N.x_ids) N.x_raise_limit [.idx (.var 1) (.cst (.int 1)), .idx (.var 1) (.cst (.int 2))])] [.iff (.cmp .isin (.var 2) (.tup [.cst (.str N.x_data_blocked), .cst (.str N.x_streams_blocked)])) [.ex (.meth (.attr (.var 0) N.x_events) N.x_append [.tup [.cst (.str N.x_blocked), .var 2]])] [.iff (.cmp .isin (.var 2) (.tup [.cst (.str N.x_stream), .cst (.str N.x_reset_stream), .cst (.str N.x_stream_data_blocked)])) [.ex (.meth (.var 0) N.x_opened_by [.var 2, .idx (.var 1) (.cst (.int 1))]), .ex (.meth (.var 0) N.x_on_sender_frame [.var 1])] [.ex (.meth (.var 0) N.x_opened_by [.var 2, .idx (.var 1) (.cst (.int 1))]), .ex (.meth (.var 0) N.x_on_reader_frame [.var 1])]]]]]⟩
noncomputable def f_StreamSet_on_sender_frame : Fn := ⟨2, 4, ["self", "frame", "part", "kind", "sid", "grown"], [
  .parV [3, 4] [.idx (.var 1) (.cst (.int 0)), .idx (.var 1) (.cst (.int 1))],
  .asg (.var 2) (.idx (.attr (.var 0) N.x_readers) (.var 4)),
  .iff (.cmp .eq (.var 3) (.cst (.str N.x_stream))) [.asg (.var 5) (.meth (.var 2) N.x_on_stream [.idx (.var 1) (.cst (.int 2)), .idx (.var 1) (.cst (.int 3)), .idx (.var 1) (.cst (.int 4))])] [.iff (.cmp .eq (.var 3) (.cst (.str N.x_reset_stream))) [.asg (.var 5) (.meth (.var 2) N.x_on_reset [.idx (.var 1) (.cst (.int 2)), .idx (.var 1) (.cst (.int 3))]), .ex (.meth (.attr (.var 0) N.x_events) N.x_append [.tup [.cst (.str N.x_reset), .var 4, .idx (.var 1) (.cst (.int 2))]])] [.asg (.var 5) (.cst (.int 0))]],
  .ex (.meth (.idx (.attr (.var 0) N.x_windows) (.var 4)) N.x_on_got [.var 5]),
  .ex (.meth (.attr (.var 0) N.x_window) N.x_on_got [.var 5]),
  .iff (.cmp .eq (.var 3) (.cst (.str N.x_stream))) [.ex (.meth (.attr (.var 0) N.x_events) N.x_append [.tup [.cst (.str N.x_readable), .var 4]])] [],
  .ex (.meth (.var 0) N.x_settle [.var 4])]⟩
noncomputable def f_StreamSet_on_reader_frame : Fn := ⟨2, 3, ["self", "frame", "part", "kind", "sid"], [
  .parV [3, 4] [.idx (.var 1) (.cst (.int 0)), .idx (.var 1) (.cst (.int 1))],
  .asg (.var 2) (.idx (.attr (.var 0) N.x_senders) (.var 4)),
  .iff (.cmp .eq (.var 3) (.cst (.str N.x_max_stream_data))) [.ex (.meth (.var 2) N.x_raise_limit [.idx (.var 1) (.cst (.int 2))])] [.iff (.meth (.var 2) N.x_on_stop [.idx (.var 1) (.cst (.int 2))]) [.ex (.meth (.attr (.var 0) N.x_events) N.x_append [.tup [.cst (.str N.x_stopped), .var 4, .idx (.var 1) (.cst (.int 2))]])] []]]⟩
noncomputable def f_StreamSet_control_frames : Fn := ⟨1, 3, ["self", "sid", "found", "told"], [
  .par [.var 2, .attr (.var 0) N.x_owed] [.attr (.var 0) N.x_owed, .lst []],
  .for [1] false false [.bi .sorted [.attr (.var 0) N.x_senders]] [.asg (.var 3) (.meth (.idx (.attr (.var 0) N.x_senders) (.var 1)) N.x_next_reset []), .iff (.cmp .isnot (.var 3) (.cst .none)) [.ex (.meth (.var 2) N.x_append [.tup [.cst (.str N.x_reset_stream), .var 1, .idx (.var 3) (.cst (.int 0)), .idx (.var 3) (.cst (.int 1))]])] []],
  .ret (.bin .add (.bin .add (.var 2) (.meth (.var 0) N.x_limit_frames [])) (.meth (.var 0) N.x_blocked_frames []))]⟩
noncomputable def f_StreamSet_limit_frames : Fn := ⟨1, 6, ["self", "found", "limit", "sid", "is_uni", "part", "is_done"], [
  .own 1,
  .asg (.var 2) (.meth (.attr (.var 0) N.x_window) N.x_next_limit []),
  .iff (.cmp .isnot (.var 2) (.cst .none)) [.app 1 (.tup [.cst (.str N.x_max_data), .var 2])] [],
  .for [3] false false [.bi .sorted [.attr (.var 0) N.x_windows]] [.asg (.var 5) (.idx (.attr (.var 0) N.x_readers) (.var 3)), .asg (.var 6) (.or [.cmp .isnot (.attr (.var 5) N.x_final_size) (.cst .none), .cmp .isnot (.attr (.var 5) N.x_stop_code) (.cst .none)]), .asg (.var 2) (.ite (.var 6) (.cst .none) (.meth (.idx (.attr (.var 0) N.x_windows) (.var 3)) N.x_next_limit [])), .iff (.cmp .isnot (.var 2) (.cst .none)) [.ex (.meth (.var 5) N.x_raise_limit [.var 2]), .app 1 (.tup [.cst (.str N.x_max_stream_data), .var 3, .var 2])] []],
  .for [4] false false [.tup [.cst (.bool false), .cst (.bool true)]] [.asg (.var 2) (.meth (.attr (.var 0) N.x_ids) N.x_next_grant [.var 4]), .iff (.cmp .isnot (.var 2) (.cst .none)) [.app 1 (.tup [.cst (.str N.x_max_streams), .var 4, .var 2])] []],
  .frz,
  .ret (.var 1)]⟩
noncomputable def f_StreamSet_blocked_frames : Fn := ⟨1, 3, ["self", "found", "sid", "limit"], [
  .own 1,
  .for [2] false false [.bi .sorted [.attr (.var 0) N.x_senders]] [.asg (.var 3) (.meth (.idx (.attr (.var 0) N.x_senders) (.var 2)) N.x_blocked_at []), .iff (.and [.cmp .isnot (.var 3) (.cst .none), .cmp .ne (.meth (.attr (.var 0) N.x_blocked_at) N.x_get [.var 2]) (.var 3)]) [.asg (.idx (.attr (.var 0) N.x_blocked_at) (.var 2)) (.var 3), .app 1 (.tup [.cst (.str N.x_stream_data_blocked), .var 2, .var 3])] []],
  .iff (.and [.meth (.var 0) N.x_wants_new [], .cmp .eq (.meth (.attr (.var 0) N.x_credit) N.x_room []) (.cst (.int 0))]) [.asg (.var 3) (.meth (.attr (.var 0) N.x_credit) N.x_next_blocked []), .iff (.cmp .isnot (.var 3) (.cst .none)) [.app 1 (.tup [.cst (.str N.x_data_blocked), .var 3])] []] [],
  .frz,
  .ret (.var 1)]⟩
noncomputable def f_StreamSet_wants_new : Fn := ⟨1, 1, ["self", "#sid"], [
  .ret (.cmp .gt (.bi .len [.comp (.cst (.int 1)) [1] false false [.attr (.var 0) N.x_senders] [.cmp .gt (.meth (.idx (.attr (.var 0) N.x_senders) (.var 1)) N.x_new_room [.cst .none]) (.cst (.int 0))]]) (.cst (.int 0)))]⟩
noncomputable def f_StreamSet_next_data : Fn := ⟨2, 4, ["self", "room", "sids", "step", "sid", "frame"], [
  .asg (.var 2) (.bi .sorted [.attr (.var 0) N.x_senders]),
  .for [3] false true [.bi .len [.var 2]] [.asg (.var 4) (.idx (.var 2) (.bin .mod (.bin .add (.attr (.var 0) N.x_turn) (.var 3)) (.bi .len [.var 2]))), .asg (.var 5) (.meth (.var 0) N.x_data_frame [.var 4, .var 1]), .iff (.cmp .isnot (.var 5) (.cst .none)) [.asg (.attr (.var 0) N.x_turn) (.bin .mod (.bin .add (.bin .add (.attr (.var 0) N.x_turn) (.var 3)) (.cst (.int 1))) (.bi .len [.var 2])), .ret (.var 5)] []],
  .ret (.cst .none)]⟩
noncomputable def f_StreamSet_data_frame : Fn := ⟨3, 3, ["self", "sid", "room", "part", "ahead", "told"], [
  .asg (.var 3) (.idx (.attr (.var 0) N.x_senders) (.var 1)),
  .iff (.cmp .gt (.call N.x_frame_size [.tup [.cst (.str N.x_stream), .var 1, .attr (.var 3) N.x_sent_to, .cst (.bytes []), .cst (.bool true)]]) (.var 2)) [.ret (.cst .none)] [],
  .asg (.var 4) (.attr (.var 3) N.x_sent_to),
  .asg (.var 5) (.meth (.var 3) N.x_next_chunk [.call N.x_stream_room [.var 1, .attr (.var 3) N.x_sent_to, .var 2], .meth (.attr (.var 0) N.x_credit) N.x_room []]),
  .iff (.cmp .is (.var 5) (.cst .none)) [.ret (.cst .none)] [],
  .ex (.meth (.attr (.var 0) N.x_credit) N.x_spend [.bi .max [.cst (.int 0), .bin .sub (.attr (.var 3) N.x_sent_to) (.var 4)]]),
  .ret (.tup [.cst (.str N.x_stream), .var 1, .idx (.var 5) (.cst (.int 0)), .idx (.var 5) (.cst (.int 1)), .idx (.var 5) (.cst (.int 2))])]⟩
noncomputable def f_StreamSet_on_acked : Fn := ⟨2, 0, ["self", "frame"], [
  .iff (.and [.cmp .eq (.idx (.var 1) (.cst (.int 0))) (.cst (.str N.x_stream)), .cmp .isin (.idx (.var 1) (.cst (.int 1))) (.attr (.var 0) N.x_senders)]) [.ex (.meth (.idx (.attr (.var 0) N.x_senders) (.idx (.var 1) (.cst (.int 1)))) N.x_on_acked [.idx (.var 1) (.cst (.int 2)), .bi .len [.idx (.var 1) (.cst (.int 3))], .idx (.var 1) (.cst (.int 4))])] [.iff (.and [.cmp .eq (.idx (.var 1) (.cst (.int 0))) (.cst (.str N.x_reset_stream)), .cmp .isin (.idx (.var 1) (.cst (.int 1))) (.attr (.var 0) N.x_senders)]) [.ex (.meth (.idx (.attr (.var 0) N.x_senders) (.idx (.var 1) (.cst (.int 1)))) N.x_on_reset_acked [])] []]]⟩
noncomputable def f_StreamSet_on_lost : Fn := ⟨2, 1, ["self", "frame", "kind"], [
  .asg (.var 2) (.idx (.var 1) (.cst (.int 0))),
  .iff (.cmp .eq (.var 2) (.cst (.str N.x_stream))) [.ex (.meth (.idx (.attr (.var 0) N.x_senders) (.idx (.var 1) (.cst (.int 1)))) N.x_on_lost [.idx (.var 1) (.cst (.int 2)), .bi .len [.idx (.var 1) (.cst (.int 3))], .idx (.var 1) (.cst (.int 4))])] [.iff (.cmp .eq (.var 2) (.cst (.str N.x_reset_stream))) [.ex (.meth (.idx (.attr (.var 0) N.x_senders) (.idx (.var 1) (.cst (.int 1)))) N.x_on_reset_lost [])] [.iff (.and [.cmp .eq (.var 2) (.cst (.str N.x_stop_sending)), .not (.meth (.idx (.attr (.var 0) N.x_readers) (.idx (.var 1) (.cst (.int 1)))) N.x_is_over []), .cmp .notin (.var 1) (.attr (.var 0) N.x_owed)]) [.ex (.meth (.attr (.var 0) N.x_owed) N.x_append [.var 1])] [.iff (.cmp .eq (.var 2) (.cst (.str N.x_max_data))) [.ex (.meth (.attr (.var 0) N.x_window) N.x_on_limit_lost [.idx (.var 1) (.cst (.int 1))])] [.iff (.cmp .eq (.var 2) (.cst (.str N.x_max_stream_data))) [.ex (.meth (.idx (.attr (.var 0) N.x_windows) (.idx (.var 1) (.cst (.int 1)))) N.x_on_limit_lost [.idx (.var 1) (.cst (.int 2))])] [.iff (.cmp .eq (.var 2) (.cst (.str N.x_max_streams))) [.ex (.meth (.attr (.var 0) N.x_ids) N.x_on_grant_lost [.idx (.var 1) (.cst (.int 1)), .idx (.var 1) (.cst (.int 2))])] [.iff (.cmp .eq (.var 2) (.cst (.str N.x_data_blocked))) [.ex (.meth (.attr (.var 0) N.x_credit) N.x_on_blocked_lost [.idx (.var 1) (.cst (.int 1))])] [.iff (.and [.cmp .eq (.var 2) (.cst (.str N.x_stream_data_blocked)), .cmp .eq (.meth (.attr (.var 0) N.x_blocked_at) N.x_get [.idx (.var 1) (.cst (.int 1))]) (.idx (.var 1) (.cst (.int 2)))]) [.ex (.meth (.attr (.var 0) N.x_blocked_at) N.x_pop [.idx (.var 1) (.cst (.int 1))])] []]]]]]]]]⟩
noncomputable def fnT : List (N × List (N × Fn)) := [(N.x_law, [(N.x_put_whole, f_put_whole), (N.x_varint_size, f_varint_size), (N.x_put_varint, f_put_varint), (N.x_put_numbers, f_put_numbers), (N.x_put_counted, f_put_counted), (N.x_put_stream, f_put_stream), (N.x_put_frame, f_put_frame), (N.x_frame_size, f_frame_size), (N.x_stream_room, f_stream_room), (N.x_add_piece, f_add_piece), (N.x_taken_from, f_taken_from), (N.x_covered, f_covered), (N.x_add_span, f_add_span), (N.x_cut_span, f_cut_span), (N.x_has_span, f_has_span), (N.x_first_span, f_first_span), (N.x_without_spans, f_without_spans), (N.x_stream_id, f_stream_id), (N.x_number_of, f_number_of), (N.x_opener_of, f_opener_of), (N.x_is_one_way, f_is_one_way), (N.x_can_send, f_can_send), (N.x_can_receive, f_can_receive), (N.x_own_window, f_own_window), (N.x_peer_window, f_peer_window), (N.x__law_draw, f__law_draw), (N.x__law_params, f__law_params), (N.x__law_world, f__law_world), (N.x__law_is_within, f__law_is_within), (N.x__law_goes, f__law_goes), (N.x__law_arrives, f__law_arrives), (N.x__law_is_lost, f__law_is_lost), (N.x__law_reads, f__law_reads), (N.x__law_turn, f__law_turn), (N.x__law_ends_well, f__law_ends_well), (N.x_law, f_law)]), (N.x_Credit, [(N.x___init__, f_Credit_init), (N.x_room, f_Credit_room), (N.x_spend, f_Credit_spend), (N.x_raise_to, f_Credit_raise_to), (N.x_next_blocked, f_Credit_next_blocked), (N.x_on_blocked_lost, f_Credit_on_blocked_lost)]), (N.x_Window, [(N.x___init__, f_Window_init), (N.x_on_got, f_Window_on_got), (N.x_on_read, f_Window_on_read), (N.x_next_limit, f_Window_next_limit), (N.x_on_limit_lost, f_Window_on_limit_lost)]), (N.x_RecvPart, [(N.x___init__, f_RecvPart_init), (N.x_check_end, f_RecvPart_check_end), (N.x_grown, f_RecvPart_grown), (N.x_on_stream, f_RecvPart_on_stream), (N.x_has_all, f_RecvPart_has_all), (N.x_read, f_RecvPart_read), (N.x_raise_limit, f_RecvPart_raise_limit), (N.x_used_to, f_RecvPart_used_to)]), (N.x_SendPart, [(N.x___init__, f_SendPart_init), (N.x_write, f_SendPart_write), (N.x_finish, f_SendPart_finish), (N.x_raise_limit, f_SendPart_raise_limit), (N.x_new_room, f_SendPart_new_room), (N.x_blocked_at, f_SendPart_blocked_at), (N.x_next_chunk, f_SendPart_next_chunk), (N.x_next_reset, f_SendPart_next_reset), (N.x_on_acked, f_SendPart_on_acked), (N.x_on_lost, f_SendPart_on_lost)]), (N.x_StreamIds, [(N.x___init__, f_StreamIds_init), (N.x_open_own, f_StreamIds_open_own), (N.x_raise_limit, f_StreamIds_raise_limit), (N.x_take_id, f_StreamIds_take_id), (N.x_next_grant, f_StreamIds_next_grant)]), (N.x_StreamSet, [(N.x___init__, f_StreamSet_init), (N.x_open_stream, f_StreamSet_open_stream), (N.x_make_parts, f_StreamSet_make_parts), (N.x_sender, f_StreamSet_sender), (N.x_reader_of, f_StreamSet_reader_of), (N.x_read_from, f_StreamSet_read_from), (N.x_settle, f_StreamSet_settle), (N.x_on_params, f_StreamSet_on_params), (N.x_opened_by, f_StreamSet_opened_by), (N.x_on_frame, f_StreamSet_on_frame), (N.x_on_sender_frame, f_StreamSet_on_sender_frame), (N.x_on_reader_frame, f_StreamSet_on_reader_frame), (N.x_control_frames, f_StreamSet_control_frames), (N.x_limit_frames, f_StreamSet_limit_frames), (N.x_blocked_frames, f_StreamSet_blocked_frames), (N.x_wants_new, f_StreamSet_wants_new), (N.x_next_data, f_StreamSet_next_data), (N.x_data_frame, f_StreamSet_data_frame), (N.x_on_acked, f_StreamSet_on_acked), (N.x_on_lost, f_StreamSet_on_lost)])]
noncomputable def callF : Nat → CF
  | 0 => fun _ _ _ _ _ => False
  | n + 1 => fun c f vs s Q => onS (look2 c f fnT) fun fn => ifT (Nat.beq vs.length fn.np) (wB (callF n) fn.body (init vs fn.nl) none s (kEnd Q) Q)
end
section
noncomputable def cpsOf : Nat → Nat → List Nat
  | 0 => fun _ => []
  | f + 1 => fun n => n.casesOn [] fun m => cpsOf f (m / 256) ++ [m % 256]
noncomputable def N.str (n : N) : Str := ⟨(cpsOf n n).toArray⟩
noncomputable def numL (l : List Nat) : Nat := l.foldl (fun a c => a * 256 + c + 1) 0
theorem num_cps : ∀ (f n : Nat), n ≤ f → numL (cpsOf f n) = n
  | 0, n, h => (Nat.le_zero.mp h).symm
  | _ + 1, 0, _ => rfl
  | f + 1, m + 1, h => by
    show numL (cpsOf f (m / 256) ++ [m % 256]) = _
    unfold numL
    rw [List.foldl_append]
    show numL (cpsOf f (m / 256)) * 256 + m % 256 + 1 = _
    rw [num_cps f (m / 256) (by omega), Nat.div_add_mod']
theorem N.str_inj {a b : N} (e : a.str = b.str) : a = b := by
  have := congrArg (fun x : Str => numL x.cps.toList) e
  exact (num_cps a a (Nat.le_refl _)).symm.trans (this.trans (num_cps b b (Nat.le_refl _)))
theorem N.str_beq (a b : N) : (a.str == b.str) = decide (a = b) := by
  by_cases e : a = b
  · subst e; rw [beq_self_eq_true, decide_eq_true rfl]
  · rw [decide_eq_false e]; exact beq_eq_false_iff_ne.mpr fun q => e (N.str_inj q)
section
variable {α β : Type} {R R' : α → β → Prop}
noncomputable def All2 (R : α → β → Prop) : List α → List β → Prop
  | [] => fun ws => ws = []
  | v :: l => fun ws => ∃ w r, ws = w :: r ∧ R v w ∧ All2 R l r
variable {l m : List α} {ws us : List β}
theorem All2.length (h : All2 R l ws) : ws.length = l.length := by
  induction l generalizing ws with
  | nil => exact congrArg List.length h
  | cons v l ih => obtain ⟨w, r, rfl, _, b⟩ := h; exact congrArg (· + 1) (ih b)
theorem All2.imp (f : ∀ a b, R a b → R' a b) (h : All2 R l ws) : All2 R' l ws := by
  induction l generalizing ws with
  | nil => exact h
  | cons v l ih => obtain ⟨w, r, e, a, b⟩ := h; exact ⟨w, r, e, f _ _ a, ih b⟩
theorem All2.append (x : All2 R m us) (h : All2 R l ws) : All2 R (l ++ m) (ws ++ us) := by
  induction l generalizing ws with
  | nil => cases h; exact x
  | cons v l ih => obtain ⟨w, r, rfl, a, b⟩ := h; exact ⟨w, r ++ us, rfl, a, ih b⟩
theorem All2.get {i : Nat} {x : α} (h : All2 R l ws) (q : l[i]? = some x) : ∃ w, ws[i]? = some w ∧ R x w := by
  induction l generalizing ws i with
  | nil => cases q
  | cons v l ih =>
    obtain ⟨w, r, rfl, a, b⟩ := h
    cases i with
    | zero => cases q; exact ⟨w, rfl, a⟩
    | succ i => have := ih b q; exact this
theorem All2.take (n : Nat) (h : All2 R l ws) : All2 R (l.take n) (ws.take n) := by
  induction n generalizing l ws with
  | zero => exact rfl
  | succ n ih => cases l with
    | nil => cases h; exact rfl
    | cons v l => obtain ⟨w, r, rfl, a, b⟩ := h; exact ⟨w, r.take n, rfl, a, ih b⟩
theorem All2.drop (n : Nat) (h : All2 R l ws) : All2 R (l.drop n) (ws.drop n) := by
  induction n generalizing l ws with
  | zero => exact h
  | succ n ih => cases l with
    | nil => cases h; exact rfl
    | cons v l => obtain ⟨w, r, rfl, a, b⟩ := h; exact ih b
theorem All2.set (i : Nat) {z : α} {w : β} (h : All2 R l ws) (x : R z w) : All2 R (l.set i z) (ws.set i w) := by
  induction l generalizing ws i with
  | nil => cases h; exact rfl
  | cons v l ih =>
    obtain ⟨u, r, rfl, a, b⟩ := h
    cases i with
    | zero => exact ⟨w, r, rfl, x, b⟩
    | succ i => exact ⟨u, r.set i w, rfl, a, ih i b⟩
theorem All2.map {γ : Type} (f : γ → α) {l : List γ} (h : All2 (fun a b => R (f a) b) l ws) : All2 R (l.map f) ws := by
  induction l generalizing ws with
  | nil => exact h
  | cons v l ih => obtain ⟨w, r, e, a, b⟩ := h; exact ⟨w, r, e, a, ih b⟩
end
def PTup (h : Heap) (a : Addr) (items : Array Value) : Prop := ∃ n, h.get? a = some { cls := .type "tuple", data := .seq items n }
theorem PTup.isTup {h : Heap} {a : Addr} {items : Array Value} (x : PTup h a items) : IsTup h a items := let ⟨n, e⟩ := x; ⟨_, e, rfl, n, rfl⟩
mutual
noncomputable def Rep (X : Addr → Prop) (h : Heap) : D → Value → Prop
  | .none => fun w => w = .none
  | .bool b => fun w => w = .bool b
  | .int i => fun w => ∃ t, w = .int i t
  | .str n => fun w => ∃ t, w = .str n.str t
  | .bytes l => fun w => ∃ t, w = .bytes (Array.mk l) t
  | .tup l => fun w => ∃ a vs, w = .ref a ∧ PTup h a (Array.mk vs) ∧ ¬ X a ∧ Reps X h l vs
  | .lst l => fun w => ∃ a vs, w = .ref a ∧ h.PlainList a (Array.mk vs) ∧ ¬ X a ∧ Reps X h l vs
noncomputable def Reps (X : Addr → Prop) (h : Heap) : List D → List Value → Prop
  | [] => fun ws => ws = []
  | d :: l => fun ws => ∃ w r, ws = w :: r ∧ Rep X h d w ∧ Reps X h l r
end
def Kp (X : Addr → Prop) (h h' : Heap) : Prop := ∀ b o, h.get? b = some o → ¬ X b → h'.get? b = some o
section
variable {X Y : Addr → Prop} {h h' h'' : Heap}
theorem Kp.refl (X : Addr → Prop) (h : Heap) : Kp X h h := fun _ _ e _ => e
theorem Kp.trans (a : Kp X h h') (b : Kp X h' h'') : Kp X h h'' := fun c o e n => b c o (a c o e n) n
theorem Reps.all {l : List D} {ws : List Value} (h' : Reps X h l ws) : All2 (Rep X h) l ws := by
  induction l generalizing ws with
  | nil => exact h'
  | cons v l ih => obtain ⟨w, r, e, a, b⟩ := h'; exact ⟨w, r, e, a, ih b⟩
theorem Reps.of {l : List D} {ws : List Value} (h' : All2 (Rep X h) l ws) : Reps X h l ws := by
  induction l generalizing ws with
  | nil => exact h'
  | cons v l ih => obtain ⟨w, r, e, a, b⟩ := h'; exact ⟨w, r, e, a, ih b⟩
theorem Rep.move (k : Kp X h h') (y : ∀ a o, h.get? a = some o → Y a → X a) (d : D) : ∀ {w : Value}, Rep X h d w → Rep Y h' d w :=
  @D.rec (fun d => ∀ {w}, Rep X h d w → Rep Y h' d w) (fun l => ∀ {w}, Reps X h l w → Reps Y h' l w) id (fun _ => id) (fun _ => id) (fun _ => id) (fun _ => id)
    (fun _ f _ => fun ⟨a, vs, e, ⟨z, p⟩, n, r⟩ => ⟨a, vs, e, ⟨z, k _ _ p n⟩, fun q => n (y _ _ p q), f r⟩)
    (fun _ f _ => fun ⟨a, vs, e, ⟨z, p⟩, n, r⟩ => ⟨a, vs, e, ⟨z, k _ _ p n⟩, fun q => n (y _ _ p q), f r⟩)
    id (fun _ _ f g _ => fun ⟨w, r, e, a, b⟩ => ⟨w, r, e, f a, g b⟩) d
end
abbrev Ft := List (Addr × Addr)
noncomputable def RepV (X : Addr → Prop) (ft : Ft) (h : Heap) (v : V) (w : Value) : Prop := V.casesOn v (fun d => Rep X h d w) fun i => ∃ p, ft[i]? = some p ∧ w = .ref p.1
abbrev Pre (ft ft' : Ft) : Prop := ∀ (i : Nat) q, ft[i]? = some q → ft'[i]? = some q
theorem RepV.move {X Y : Addr → Prop} {ft ft' : Ft} {h h' : Heap} (k : Kp X h h') (y : ∀ a o, h.get? a = some o → Y a → X a) (p : Pre ft ft') (v : V) {w : Value} : RepV X ft h v w → RepV Y ft' h' v w :=
  V.rec (motive := fun v => RepV X ft h v w → RepV Y ft' h' v w) (fun d => Rep.move k y d) (fun _ ⟨q, e, z⟩ => ⟨q, p _ _ e, z⟩) v
abbrev RepVs (X : Addr → Prop) (ft : Ft) (h : Heap) : List V → List Value → Prop := All2 (RepV X ft h)
theorem dats_rep {X : Addr → Prop} {ft : Ft} {h : Heap} {vs : List V} {ws : List Value} {ds : List D} (e : dats vs = some ds) (x : RepVs X ft h vs ws) : Reps X h ds ws := by
  induction vs generalizing ws ds with
  | nil => cases e; exact x
  | cons v l ih => cases v with
    | loc _ => cases e
    | d d =>
      obtain ⟨w, r, q, a, b⟩ := x
      obtain ⟨l', e1, rfl⟩ := Option.map_eq_some_iff.mp e
      exact ⟨w, r, q, a, ih e1 b⟩
noncomputable def keyV (k : Key) (v : Value) : Prop := k.casesOn (fun i => ∃ t, v = .int i t) fun n => ∃ t, v = .str n.str t
theorem keyV_inj : ∀ {v : Value} (a b : Key), keyV a v → keyV b v → a = b
  | _, .i _, .i _, ⟨_, e⟩, ⟨_, e'⟩ => Value.int.noConfusion (e.symm.trans e') fun e _ => congrArg Key.i e
  | _, .i _, .s _, ⟨_, e⟩, ⟨_, e'⟩ => nomatch e.symm.trans e'
  | _, .s _, .i _, ⟨_, e⟩, ⟨_, e'⟩ => nomatch e.symm.trans e'
  | _, .s _, .s _, ⟨_, e⟩, ⟨_, e'⟩ => Value.str.noConfusion (e.symm.trans e') fun e _ => congrArg Key.s (N.str_inj e)
section
variable {prog : Program} {w : World} {A : Around} {E : Value → Shared → Prop} {s : Shared} {Q : Bool → Shared → Prop}
theorem eqB_is {a : Int} {b : Str} {t u : Tok} (h : Q false s) : wpAny (model prog w) A (eqBool (.int a t) (.str b u)) Q E s := by
  unfold eqBool
  rw [if_neg (by intro q; exact nomatch (eq_of_beq q))]
  exact wpAny_bind (EqMixed.eq_int_str (wpAny_truthy_bool h))
theorem eqB_si {a : Int} {b : Str} {t u : Tok} (h : Q false s) : wpAny (model prog w) A (eqBool (.str b u) (.int a t)) Q E s := by
  unfold eqBool
  rw [if_neg (by intro q; exact nomatch (eq_of_beq q))]
  exact wpAny_bind (EqMixed.eq_str_int (wpAny_truthy_bool h))
end
open Classical in
noncomputable def mixKind (prog : Program) (w : World) : KeyKind prog w Key where
  is := fun k v => decide (keyV k v)
  hash := fun k => k.casesOn hashInt fun n => hashStr w n.str
  inj := fun v a b h h' => keyV_inj a b (of_decide_eq_true h) (of_decide_eq_true h')
  byValue := fun k v h => match k, of_decide_eq_true h with
    | .i _, ⟨_, e⟩ => e ▸ rfl
    | .s _, ⟨_, e⟩ => e ▸ rfl
  pyHash := fun {A E s k v Q} hv h => match k, of_decide_eq_true hv, h with
    | .i _, ⟨_, e⟩, h => e ▸ wpAny_pyHash_int h
    | .s _, ⟨_, e⟩, h => e ▸ wpAny_pyHash_str h
  eqBool := fun {A E s a b u v Q} hu hv h => by
    have hu := of_decide_eq_true hu
    have hv := of_decide_eq_true hv
    cases a with
    | i k =>
      obtain ⟨t, rfl⟩ := hu
      cases b with
      | i j =>
        obtain ⟨t', rfl⟩ := hv
        refine wpAny_eqBool_int ?_
        rw [show (k == j) = decide (Key.i k = Key.i j) from decide_eq_decide.mpr ⟨congrArg Key.i, fun e => by injection e⟩]; exact h
      | s m =>
        obtain ⟨t', rfl⟩ := hv
        refine eqB_is ?_
        rwa [decide_eq_false (by intro e; cases e)] at h
    | s n =>
      obtain ⟨t, rfl⟩ := hu
      cases b with
      | i j =>
        obtain ⟨t', rfl⟩ := hv
        refine eqB_si ?_
        rwa [decide_eq_false (by intro e; cases e)] at h
      | s m =>
        obtain ⟨t', rfl⟩ := hv
        refine wpAny_eqBool_str ?_
        rw [show decide (n.str = m.str) = decide (Key.s n = Key.s m) from decide_eq_decide.mpr ⟨fun e => congrArg Key.s (N.str_inj e), fun e => by injection e with e; rw [e]⟩]
        exact h
  «strs» := fun k x t v h => by
    have h := of_decide_eq_true h
    cases k with
    | i k => obtain ⟨u, hu⟩ := h; cases hu
    | s n =>
      obtain ⟨u, hu⟩ := h
      injection hu with hx
      subst hx
      refine Bool.eq_iff_iff.mpr ⟨fun q => ?_, fun q => decide_eq_true ?_⟩
      · obtain ⟨t, e⟩ := of_decide_eq_true q
        rw [e]; exact beq_self_eq_true _
      · cases v <;> first | (cases q; done) | exact ⟨_, by rw [eq_of_beq q]⟩
end
section
structure Cx where
  prog : Program
  w : World
  hb : Heap
  cad : N → Addr
  lw : ∃ o, hb.get? cStatics = some o
  mG : Str → Option Value
  mB : Str → Option Value
  cN : N → Addr
  cM : N → Str → Option Value
def Ms (ft : Ft) (a : Addr) : Prop := ∃ p ∈ ft, p.2 = a
def Xs (ft : Ft) (Z : Addr → Prop) (a : Addr) : Prop := Ms ft a ∨ Z a
noncomputable def RepK (X : Addr → Prop) (ft : Ft) (h : Heap) (a : Key × V) (b : Key × Value) : Prop := a.1 = b.1 ∧ RepV X ft h a.2 b.2
abbrev RepKs (X : Addr → Prop) (ft : Ft) (h : Heap) : List (Key × V) → List (Key × Value) → Prop := All2 (RepK X ft h)
def InstD (h : Heap) (x C dx : Addr) (mA : Str → Option Value) : Prop :=
  ∃ o, h.get? x = some o ∧ o.cls = .ref C ∧ (∀ cd, o.data ≠ .cls cd) ∧ o.dict = some dx ∧ dx ≠ x ∧ h.Ns1 dx mA
structure Fields (X : Addr → Prop) (ft : Ft) (h : Heap) (c : N) (mA : Str → Option Value) (l : List (N × V)) : Prop where
  at_ : ∀ n v, look n l = some v → ∃ w, mA n.str = some w ∧ RepV X ft h v w
  only : ∀ y, mA y ≠ none → ∃ n, y = n.str ∧ keysIn n (attrsOf c) = true
def DicAt (c : Cx) (X : Addr → Prop) (ft : Ft) (h : Heap) (p : Addr × Addr) (l : List (Key × V)) : Prop := p.1 = p.2 ∧ ∃ kvs, h.DictOf (mixKind c.prog c.w) p.2 kvs ∧ RepKs X ft h l kvs
noncomputable def CellAt (c : Cx) (X : Addr → Prop) (ft : Ft) (h : Heap) (p : Addr × Addr) (x : Cell) : Prop := Cell.casesOn x
  (fun l => p.1 = p.2 ∧ ∃ vs, h.IsList p.2 (Array.mk vs) ∧ RepVs X ft h l vs)
  (fun n => p.1 = p.2 ∧ ∃ vs, h.PlainList p.2 vs ∧ vs.size = n)
  (DicAt c X ft h p) (DicAt c X ft h p)
  fun C l => (attrsOf C ≠ [] ∧ ¬ X p.1 ∧ c.hb.get? p.1 = none) ∧ ∃ mA, InstD h p.1 (c.cad C) p.2 mA ∧ Fields X ft h C mA l
structure Sg where
  ft : Ft
  S : Store
  s : Shared
section
variable {c : Cx} {X Y Z : Addr → Prop} {ft ft' : Ft} {h h' : Heap} {p : Addr × Addr}
theorem RepKs.move (k : Kp X h h') (y : ∀ a o, h.get? a = some o → Y a → X a) (q : Pre ft ft') {l : List (Key × V)} {ws : List (Key × Value)} (r : RepKs X ft h l ws) : RepKs Y ft' h' l ws :=
  r.imp fun _ _ b => ⟨b.1, b.2.move k y q⟩
theorem RepVs.move (k : Kp X h h') (y : ∀ a o, h.get? a = some o → Y a → X a) (q : Pre ft ft') {l : List V} {ws : List Value} (r : RepVs X ft h l ws) : RepVs Y ft' h' l ws := r.imp fun _ _ b => b.move k y q
theorem DicAt.get {l : List (Key × V)} (C : DicAt c X ft h p l) : ∃ o, h.get? p.2 = some o := by
  obtain ⟨_, _, ⟨o, _, _, e, _⟩, _⟩ := C; exact ⟨o, e⟩
theorem CellAt.get {x : Cell} (C : CellAt c X ft h p x) : ∃ o, h.get? p.2 = some o := by
  cases x with
  | lst l => obtain ⟨_, _, ⟨o, e, _⟩, _⟩ := C; exact ⟨o, e⟩
  | log n => obtain ⟨_, _, ⟨_, e⟩, _⟩ := C; exact ⟨_, e⟩
  | dict l => exact DicAt.get C
  | lock l => exact DicAt.get C
  | inst D l => obtain ⟨_, _, ⟨_, _, _, _, _, _, ⟨o, _, _, e, _⟩⟩, _⟩ := C; exact ⟨o, e⟩
section
variable (k : Kp X h h') (y : ∀ a o, h.get? a = some o → Y a → X a) (q : Pre ft ft') (e : h'.get? p.2 = h.get? p.2)
include k y q e
theorem DicAt.move {l : List (Key × V)} (C : DicAt c X ft h p l) : DicAt c Y ft' h' p l := by
  obtain ⟨a, kvs, ⟨o, es, ep, b, r⟩, z⟩ := C
  exact ⟨a, kvs, ⟨o, es, ep, e.trans b, r⟩, z.move k y q⟩
theorem CellAt.move {x : Cell} (C : CellAt c X ft h p x) : CellAt c Y ft' h' p x := by
  cases x with
  | lst l => obtain ⟨a, vs, ⟨o, b, r⟩, z⟩ := C; exact ⟨a, vs, ⟨o, e.trans b, r⟩, z.move k y q⟩
  | log n => obtain ⟨a, vs, ⟨n, b⟩, r⟩ := C; exact ⟨a, vs, ⟨n, e.trans b⟩, r⟩
  | dict l => exact DicAt.move k y q e C
  | lock l => exact DicAt.move k y q e C
  | inst D l =>
    obtain ⟨⟨n, a, b⟩, mA, ⟨o, i1, i2, i3, i4, i5, ⟨od, es, ep, i6, i7⟩⟩, f⟩ := C
    exact ⟨⟨n, fun z => a (y _ _ i1 z), b⟩, mA, ⟨o, k _ _ i1 a, i2, i3, i4, i5, ⟨od, es, ep, e.trans i6, i7⟩⟩, ⟨fun n v hv => (f.at_ n v hv).imp fun w z => ⟨z.1, z.2.move k y q⟩, f.only⟩⟩
end
end
noncomputable def Rv (Z : Addr → Prop) (σ : Sg) (v : V) (w : Value) : Prop := RepV (Xs σ.ft Z) σ.ft σ.s.heap v w
noncomputable def Rd (Z : Addr → Prop) (σ : Sg) (d : D) (w : Value) : Prop := Rep (Xs σ.ft Z) σ.s.heap d w
abbrev Rvs (Z : Addr → Prop) (σ : Sg) : List V → List Value → Prop := All2 (Rv Z σ)
structure Inv (c : Cx) (Z : Addr → Prop) (σ : Sg) : Prop where
  base : ∀ b o, c.hb.get? b = some o → σ.s.heap.get? b = some o
  len : σ.ft.length = σ.S.length
  cells : ∀ (i : Nat) p x, σ.ft[i]? = some p → σ.S[i]? = some x → CellAt c (Xs σ.ft Z) σ.ft σ.s.heap p x
  nd : (σ.ft.map (·.2)).Nodup
  zm : ∀ a, Z a → ¬ Ms σ.ft a
  mb : ∀ a, Ms σ.ft a → c.hb.get? a = none
  zb : ∀ a, Z a → c.hb.get? a = none
  zs : ∀ a, Z a → ∃ o, σ.s.heap.get? a = some o
  nsy : ∀ p ∈ σ.ft, p.1 = p.2 → p.2 ≠ sysModules
structure Ext (F : Addr → Prop) (σ σ' : Sg) : Prop where
  sh : σ'.s = { σ.s with heap := σ'.s.heap, toks := σ'.s.toks }
  kp : Kp (fun a => Ms σ.ft a ∨ F a) σ.s.heap σ'.s.heap
  pre : Pre σ.ft σ'.ft
  new : ∀ p ∈ σ'.ft, p ∈ σ.ft ∨ σ.s.heap.get? p.2 = none
  lock : ∀ (i : Nat) l p, σ.S[i]? = some (.lock l) → σ.ft[i]? = some p → σ'.S[i]? = some (.lock l) ∧ σ'.s.heap.get? p.2 = σ.s.heap.get? p.2
  st : ∀ a o, σ.s.heap.get? a = some o → ∃ o', σ'.s.heap.get? a = some o'
abbrev noF : Addr → Prop := fun _ => False
abbrev Sg.to (σ : Sg) (h : Heap) (t : Nat) : Sg := ⟨σ.ft, σ.S, { σ.s with heap := h, toks := t }⟩
section
variable {c : Cx} {F Z : Addr → Prop} {σ σ' σ'' : Sg} {h' : Heap} {i : Nat} {p : Addr × Addr} {x y : Cell} {v : V} {w : Value}
theorem Ext.refl (F : Addr → Prop) (σ : Sg) : Ext F σ σ := ⟨rfl, Kp.refl _ _, fun _ _ e => e, fun _ m => .inl m, fun _ _ _ e _ => ⟨e, rfl⟩, fun _ o e => ⟨o, e⟩⟩
theorem Ext.new' (a : Ext F σ σ') {x : Addr} {o : Obj} (e : σ.s.heap.get? x = some o) (m : Ms σ'.ft x) : Ms σ.ft x := by
  obtain ⟨p, hp, rfl⟩ := m
  rcases a.new p hp with m | m
  · exact ⟨p, m, rfl⟩
  · rw [m] at e; cases e
theorem Ext.trans (a : Ext F σ σ') (b : Ext F σ' σ'') : Ext F σ σ'' := by
  refine ⟨?_, fun x o e n => b.kp x o (a.kp x o e n) fun q => n (q.imp (a.new' e) id), fun i q e => b.pre i q (a.pre i q e), fun p m => ?_, fun i l p e1 e2 => ?_, fun x o e => ?_⟩
  · rw [b.sh, a.sh]
  · rcases b.new p m with m | m
    · exact a.new p m
    · cases e : σ.s.heap.get? p.2 with
      | none => exact .inr rfl
      | some o => obtain ⟨o', e'⟩ := a.st _ _ e; rw [m] at e'; cases e'
  · obtain ⟨f1, f2⟩ := a.lock i l p e1 e2
    obtain ⟨g1, g2⟩ := b.lock i l p f1 (a.pre i p e2)
    exact ⟨g1, g2.trans f2⟩
  · obtain ⟨o', e'⟩ := a.st x o e; exact b.st x o' e'
theorem Ext.weak {F' : Addr → Prop} (a : Ext F σ σ') (k : ∀ x, F x → F' x) : Ext F' σ σ' := ⟨a.sh, fun x o e n => a.kp x o e fun q => n (q.imp id (k x)), a.pre, a.new, a.lock, a.st⟩
theorem Ext.of_no (a : Ext noF σ σ') : Ext F σ σ' := a.weak fun _ h => h.elim
theorem Ext.kpX (a : Ext F σ σ') (hF : ∀ x, F x → Z x) : Kp (Xs σ.ft Z) σ.s.heap σ'.s.heap := fun x o e n => a.kp x o e fun q => n (q.imp id (hF x))
theorem Ext.kpN (a : Ext noF σ σ') : Kp (Xs σ.ft Z) σ.s.heap σ'.s.heap := a.kpX fun _ h => h.elim
theorem Ext.back (a : Ext F σ σ') (x : Addr) (o : Obj) (e : σ.s.heap.get? x = some o) (m : Xs σ'.ft Z x) : Xs σ.ft Z x := m.imp (a.new' e) id
theorem Ext.rd (a : Ext noF σ σ') {d : D} (r : Rd Z σ d w) : Rd Z σ' d w := Rep.move a.kpN a.back d r
theorem Ext.rv (a : Ext noF σ σ') (r : Rv Z σ v w) : Rv Z σ' v w := RepV.move a.kpN a.back a.pre v r
theorem Ext.rvs (a : Ext noF σ σ') {l : List V} {ws : List Value} (r : Rvs Z σ l ws) : Rvs Z σ' l ws := r.imp fun _ _ => a.rv
theorem Inv.low (I : Inv c Z σ) : σ.s.heap.objs.size ≠ sysModules := by
  obtain ⟨o, e⟩ := c.lw
  exact fun q => absurd (q ▸ Heap.lt_size (I.base _ _ e)) (by decide)
theorem Inv.at (I : Inv c Z σ) (e : σ.S[i]? = some x) : ∃ p, σ.ft[i]? = some p ∧ CellAt c (Xs σ.ft Z) σ.ft σ.s.heap p x := by
  have l : i < σ.ft.length := I.len ▸ (List.getElem?_eq_some_iff.mp e).1
  exact ⟨_, List.getElem?_eq_getElem l, I.cells i _ x (List.getElem?_eq_getElem l) e⟩
theorem Inv.at' (I : Inv c Z σ) (hp : σ.ft[i]? = some p) (e : σ.S[i]? = some x) : CellAt c (Xs σ.ft Z) σ.ft σ.s.heap p x := I.cells i p x hp e
theorem ms_mem {ft : Ft} (e : ft[i]? = some p) : Ms ft p.2 := ⟨p, List.mem_of_getElem? e, rfl⟩
theorem Inv.has (I : Inv c Z σ) (hp : σ.ft[i]? = some p) : ∃ x, σ.S[i]? = some x :=
  ⟨_, List.getElem?_eq_getElem (I.len ▸ (List.getElem?_eq_some_iff.mp hp).1)⟩
theorem Inv.ms_in (I : Inv c Z σ) {a : Addr} (m : Ms σ.ft a) : ∃ o, σ.s.heap.get? a = some o := by
  obtain ⟨p, hp, rfl⟩ := m
  obtain ⟨i, hi⟩ := List.getElem?_of_mem hp
  obtain ⟨x, hx⟩ := I.has hi
  exact (I.cells i p _ hi hx).get
theorem Inv.xs_in (I : Inv c Z σ) {a : Addr} (m : Xs σ.ft Z a) : ∃ o, σ.s.heap.get? a = some o := m.elim I.ms_in (I.zs a)
theorem Inv.fresh (I : Inv c Z σ) {a : Addr} (e : σ.s.heap.get? a = none) : ¬ Xs σ.ft Z a := fun m => by
  obtain ⟨o, q⟩ := I.xs_in m
  rw [e] at q; cases q
theorem nodup_get {l : List Addr} (n : l.Nodup) {i j : Nat} {a : Addr} (hi : l[i]? = some a) (hj : l[j]? = some a) : i = j := by
  obtain ⟨li, ei⟩ := List.getElem?_eq_some_iff.mp hi
  obtain ⟨lj, ej⟩ := List.getElem?_eq_some_iff.mp hj
  have pw := List.pairwise_iff_getElem.mp n
  rcases Nat.lt_trichotomy i j with q | q | q
  · exact absurd (ei.trans ej.symm) (pw i j li lj q)
  · exact q
  · exact absurd (ej.trans ei.symm) (pw j i lj li q)
theorem Inv.apart (I : Inv c Z σ) {j : Nat} {q : Addr × Addr} (a : σ.ft[i]? = some p) (b : σ.ft[j]? = some q) (n : i ≠ j) : p.2 ≠ q.2 := fun e =>
  n (nodup_get I.nd (by rw [List.getElem?_map, a]; rfl) (by rw [List.getElem?_map, b]; exact congrArg some e.symm))
theorem grow_ok {F : Addr → Prop} (I : Inv c Z σ) (k : ∀ b o, σ.s.heap.get? b = some o → h'.get? b = some o) (t : Nat) : Ext F σ (σ.to h' t) ∧ Inv c Z (σ.to h' t) := by
  have same : ∀ (i : Nat) p x, σ.ft[i]? = some p → σ.S[i]? = some x → h'.get? p.2 = σ.s.heap.get? p.2 := fun i p x a b => by
    obtain ⟨o, e⟩ := (I.cells i p x a b).get
    exact (k _ _ e).trans e.symm
  exact ⟨⟨rfl, fun b o e _ => k b o e, fun _ _ e => e, fun _ m => .inl m, fun i l p e1 e2 => ⟨e1, same _ _ _ e2 e1⟩, fun a o e => ⟨o, k _ _ e⟩⟩,
    ⟨fun b o e => k b o (I.base b o e), I.len, fun i p x a b => (I.cells i p x a b).move (fun b o e _ => k b o e) (fun _ _ _ m => m) (fun _ _ e => e) (same i p x a b), I.nd, I.zm, I.mb, I.zb, fun a z => (I.zs a z).imp fun o e => k _ _ e, I.nsy⟩⟩
abbrev Sg.put (σ : Sg) (i : Nat) (y : Cell) (h : Heap) (t : Nat) : Sg := ⟨σ.ft, σ.S.set i y, { σ.s with heap := h, toks := t }⟩
section
variable (I : Inv c Z σ) (hp : σ.ft[i]? = some p) (kb : ∀ b o, b ≠ p.2 → σ.s.heap.get? b = some o → h'.get? b = some o)
include I hp kb
theorem put_same {j : Nat} {q : Addr × Addr} (a : σ.ft[j]? = some q) (n : i ≠ j) : h'.get? q.2 = σ.s.heap.get? q.2 := by
  obtain ⟨z, hz⟩ := I.has a
  obtain ⟨o, e⟩ := (I.cells j q z a hz).get
  exact (kb _ _ (Ne.symm (I.apart hp a n)) e).trans e.symm
theorem put_inv (C : CellAt c (Xs σ.ft Z) σ.ft h' p y) (t : Nat) : Inv c Z (σ.put i y h' t) := by
  have m := ms_mem hp
  have li : i < σ.S.length := I.len ▸ (List.getElem?_eq_some_iff.mp hp).1
  refine ⟨fun b o e => kb b o (fun q => ?_) (I.base b o e), (List.length_set ..).symm ▸ I.len, fun j q z a b => ?_, I.nd, I.zm, I.mb, I.zb, fun a z => (I.zs a z).imp fun o e => kb a o (fun q => I.zm a z (q ▸ m)) e, I.nsy⟩
  · rw [q, I.mb _ m] at e; cases e
  · by_cases n : i = j
    · cases n
      cases hp.symm.trans a
      cases (List.getElem?_set_self li).symm.trans b
      exact C
    · exact (I.cells j q z a ((List.getElem?_set_ne n).symm.trans b)).move (fun b o e n => kb b o (fun q => n (.inl (q ▸ m))) e) (fun _ _ _ m => m) (fun _ _ e => e) (put_same I hp kb a n)
theorem put_ok (hx : σ.S[i]? = some x) (hl : ∀ l, x ≠ .lock l) (C : CellAt c (Xs σ.ft Z) σ.ft h' p y) (t : Nat) : Ext noF σ (σ.put i y h' t) ∧ Inv c Z (σ.put i y h' t) := by
  refine ⟨⟨rfl, fun b o e n => kb b o (fun q => n (.inl (q ▸ ms_mem hp))) e, fun _ _ e => e, fun _ m => .inl m, fun j l q e1 e2 => ?_, fun a o e => ?_⟩, put_inv I hp kb C t⟩
  · have n : i ≠ j := fun n => hl l (Option.some.inj (hx.symm.trans (n ▸ e1)))
    exact ⟨(List.getElem?_set_ne n).trans e1, put_same I hp kb e2 n⟩
  · by_cases q : a = p.2
    · exact q ▸ C.get
    · exact ⟨o, kb a o q e⟩
theorem Ext.put {σ0 : Sg} (I0 : Inv c Z σ0) (e : Ext F σ0 σ) (f : σ0.s.heap.get? p.2 = none) (t : Nat) : Ext F σ0 (σ.put i y h' t) := by
  have np : ∀ {b o}, σ0.s.heap.get? b = some o → b ≠ p.2 := fun eb q => by rw [q, f] at eb; cases eb
  refine ⟨by show ({ σ.s with heap := h', toks := t } : Shared) = _; rw [e.sh], fun b o eb n => kb b o (np eb) (e.kp b o eb n), e.pre, e.new, fun j l q e1 e2 => ?_, fun a o ea => ?_⟩
  · obtain ⟨f1, f2⟩ := e.lock j l q e1 e2
    obtain ⟨o, eo⟩ := (I0.cells j q _ e2 e1).get
    have n : i ≠ j := fun n => np eo (congrArg Prod.snd (Option.some.inj ((e.pre j q e2).symm.trans (n ▸ hp))))
    exact ⟨(List.getElem?_set_ne n).trans f1, (put_same I hp kb (e.pre j q e2) n).trans f2⟩
  · obtain ⟨o', ho⟩ := e.st a o ea
    exact ⟨o', kb a o' (np ea) ho⟩
end
theorem add_ok (I : Inv c Z σ) (k : ∀ b o, σ.s.heap.get? b = some o → h'.get? b = some o) (f : σ.s.heap.get? p.2 = none) (t : Nat)
    (C : ∀ X, (∀ a o, σ.s.heap.get? a = some o → X a → Xs σ.ft Z a) → (∀ a, X a → a = p.2 ∨ ∃ o, σ.s.heap.get? a = some o) → Pre σ.ft (σ.ft ++ [p]) → CellAt c X (σ.ft ++ [p]) h' p x) (sys : p.1 = p.2 → p.2 ≠ sysModules) :
    Ext noF σ ⟨σ.ft ++ [p], σ.S ++ [x], { σ.s with heap := h', toks := t }⟩ ∧ Inv c Z ⟨σ.ft ++ [p], σ.S ++ [x], { σ.s with heap := h', toks := t }⟩ ∧ (σ.ft ++ [p])[σ.S.length]? = some p := by
  have mem : ∀ {q}, q ∈ σ.ft ++ [p] → q ∈ σ.ft ∨ q = p := fun m => (List.mem_append.mp m).imp id List.mem_singleton.mp
  have back : ∀ a o, σ.s.heap.get? a = some o → Xs (σ.ft ++ [p]) Z a → Xs σ.ft Z a := by
    rintro a o e (⟨q, hq, rfl⟩ | m)
    · rcases mem hq with hq | rfl
      · exact .inl ⟨q, hq, rfl⟩
      · rw [f] at e; cases e
    · exact .inr m
  have live : ∀ a, Xs (σ.ft ++ [p]) Z a → a = p.2 ∨ ∃ o, σ.s.heap.get? a = some o := by
    rintro a (⟨q, hq, rfl⟩ | m)
    · exact (mem hq).elim (fun hq => .inr (I.ms_in ⟨q, hq, rfl⟩)) fun e => .inl (congrArg Prod.snd e)
    · exact .inr (I.zs a m)
  have pre : Pre σ.ft (σ.ft ++ [p]) := fun i q e => (List.getElem?_append_left (List.getElem?_eq_some_iff.mp e).1).trans e
  have here : (σ.ft ++ [p])[σ.S.length]? = some p := I.len ▸ List.getElem?_concat_length
  have old : ∀ (j : Nat) q, (σ.ft ++ [p])[j]? = some q → (j = σ.S.length ∧ q = p) ∨ σ.ft[j]? = some q := fun j q a => by
    rcases Nat.lt_trichotomy j σ.ft.length with n | n | n
    · exact .inr ((List.getElem?_append_left n).symm.trans a)
    · exact .inl ⟨n.trans I.len, (Option.some.inj (here.symm.trans (I.len ▸ n ▸ a))).symm⟩
    · rw [List.getElem?_eq_none (by rw [List.length_append]; exact n)] at a; cases a
  have oldS : ∀ (j : Nat) q z, σ.ft[j]? = some q → (σ.S ++ [x])[j]? = some z → σ.S[j]? = some z := fun j q z a b =>
    (List.getElem?_append_left (I.len ▸ (List.getElem?_eq_some_iff.mp a).1)).symm.trans b
  refine ⟨⟨rfl, fun b o e _ => k b o e, pre, fun q m => (mem m).imp id fun (e : q = p) => e ▸ f, fun i l q e1 e2 => ?_, fun a o e => ⟨o, k _ _ e⟩⟩,
    ⟨fun b o e => k b o (I.base b o e), ?_, fun j q z a b => ?_, ?_, fun a z => ?_, fun a m => ?_, I.zb, fun a z => (I.zs a z).imp fun o e => k _ _ e, fun q hq => (mem hq).elim (I.nsy q) fun (e : q = p) => e ▸ sys⟩, here⟩
  · obtain ⟨o, e⟩ := (I.cells i q _ e2 e1).get
    exact ⟨(List.getElem?_append_left (List.getElem?_eq_some_iff.mp e1).1).trans e1, (k _ _ e).trans e.symm⟩
  · show (σ.ft ++ [p]).length = (σ.S ++ [x]).length
    rw [List.length_append, List.length_append, I.len]; rfl
  · rcases old j q a with ⟨rfl, rfl⟩ | a
    · cases (List.getElem?_concat_length (l := σ.S)).symm.trans b
      exact C _ back live pre
    · have b := oldS j q z a b
      obtain ⟨o, e⟩ := (I.cells j q z a b).get
      exact (I.cells j q z a b).move (fun b o e _ => k b o e) back pre ((k _ _ e).trans e.symm)
  · show ((σ.ft ++ [p]).map (·.2)).Nodup
    rw [List.map_append, List.nodup_append]
    refine ⟨I.nd, List.nodup_cons.mpr ⟨List.not_mem_nil, List.nodup_nil⟩, fun a ha b hb e => ?_⟩
    obtain ⟨q, hq, rfl⟩ := List.mem_map.mp ha
    obtain ⟨o, ho⟩ := I.ms_in ⟨q, hq, rfl⟩
    cases List.mem_singleton.mp hb
    rw [e, f] at ho; cases ho
  · rintro ⟨q, hq, rfl⟩
    rcases mem hq with hq | rfl
    · exact I.zm _ z ⟨q, hq, rfl⟩
    · obtain ⟨o, e⟩ := I.zs _ z
      rw [f] at e; cases e
  · obtain ⟨q, hq, rfl⟩ := m
    rcases mem hq with hq | rfl
    · exact I.mb _ ⟨q, hq, rfl⟩
    · cases e : c.hb.get? q.2 with
      | none => rfl
      | some o => rw [I.base _ _ e] at f; cases f
theorem aside_ok {b : Addr} (I : Inv c Z σ) (zb : Z b) (kb : ∀ a o, a ≠ b → σ.s.heap.get? a = some o → h'.get? a = some o) (hn : ∃ o, h'.get? b = some o) (t : Nat) : Ext (· = b) σ (σ.to h' t) ∧ Inv c Z (σ.to h' t) := by
  have same : ∀ {i : Nat} {p : Addr × Addr}, σ.ft[i]? = some p → h'.get? p.2 = σ.s.heap.get? p.2 := fun h1 => by
    obtain ⟨o, e⟩ := I.ms_in (ms_mem h1)
    exact (kb _ _ (fun q => I.zm b zb (q ▸ ms_mem h1)) e).trans e.symm
  have live : ∀ a, (∃ o, σ.s.heap.get? a = some o) → ∃ o, h'.get? a = some o := fun a h => by
    by_cases q : a = b
    · exact q ▸ hn
    · exact h.imp fun o e => kb a o q e
  exact ⟨⟨rfl, fun a o ea na => kb a o (fun q => na (.inr q)) ea, fun _ _ e => e, fun _ m => .inl m, fun i l p e1 e2 => ⟨e1, same e2⟩, fun a o e => live a ⟨o, e⟩⟩,
    ⟨fun a o e => kb a o (fun q => by rw [q, I.zb b zb] at e; cases e) (I.base a o e), I.len, fun i p y h1 h2 =>
      (I.cells i p y h1 h2).move (fun a o e m => kb a o (fun q => m (.inr (q ▸ zb))) e) (fun _ _ _ m => m) (fun _ _ e => e) (same h1), I.nd, I.zm, I.mb, I.zb, fun a z => live a (I.zs a z), I.nsy⟩⟩
end
end
section
def okCode : Code → Bool
  | .builtin id _ => id == "claim.caller" || id == "type.__call__" || id == "bytearray.__init__"
  | _ => true
def GoodB (l : List (Code × Pos)) : Prop := ∀ x ∈ l, okCode x.1 = true
def Good (Γ : Ctx) : Prop := okCode Γ.code = true ∧ GoodB Γ.below
def wpG {α : Type} (M : Model) (A : Around) (t : Sem α) (Q : α → Shared → Prop) (s : Shared) : Prop :=
  ∀ Γ p, Γ.In A → Good Γ → Sem.wp M Γ t (fun a _ s' => Q a s') (fun _ _ _ => False) p s
def codeG (M : Model) (A : Around) (c : Code) (R : Flow → Shared → Prop) (s : Shared) : Prop :=
  ∀ Γ p, Γ.code = c → Γ.Below A → GoodB Γ.below → wpCode M Γ (fun r s' => ∃ f, r = .ok f ∧ R f s') p s
abbrev noE : Value → Shared → Prop := fun _ _ => False
section
variable {α β : Type} {M : Model} {A : Around} {s : Shared} {Q : α → Shared → Prop} {QB : β → Shared → Prop} {m : Sem α} {f : α → Sem β} {pos : Pos} {vs : List Value}
theorem wpG_of (h : wpAny M A m Q noE s) : wpG M A m Q s := fun Γ p hΓ _ => h Γ p hΓ
theorem wpG_pure {a : α} (h : Q a s) : wpG M A (pure a) Q s := wpG_of (wpAny_pure h)
theorem wpG_mono {Q' : α → Shared → Prop} (h : wpG M A m Q' s) (k : ∀ a s, Q' a s → Q a s) : wpG M A m Q s :=
  fun Γ p hΓ g => Sem.wp_mono M Γ m (fun a _ s => k a s) (fun _ _ _ h => h) p s (h Γ p hΓ g)
theorem wpG_bind (h : wpG M A m (fun a s' => wpG M A (f a) QB s') s) : wpG M A (m >>= f) QB s := fun Γ p hΓ g => by
  rw [Sem.wp_bind']
  exact Sem.wp_mono M Γ m (fun a p' s' h' => h' Γ p' hΓ g) (fun _ _ _ h' => h') p s (h Γ p hΓ g)
theorem wpG_then (h : wpG M A m Q s) (k : ∀ a s', Q a s' → wpG M A (f a) QB s') : wpG M A (m >>= f) QB s := wpG_bind (wpG_mono h k)
theorem wpG_any (h : wpAny M A m Q noE s) (k : ∀ a s', Q a s' → wpG M A (f a) QB s') : wpG M A (m >>= f) QB s := wpG_then (wpG_of h) k
theorem wpG_holding (h : wpG M A m Q s) : wpG M A (holding vs m) Q s := fun Γ p hΓ g => by
  rw [Sem.wp_holding]; exact h Γ p hΓ g
theorem wpG_hold (h : wpG M A m Q s) (k : ∀ a s', Q a s' → wpG M A (f a) QB s') : wpG M A (holding vs m >>= f) QB s := wpG_then (wpG_holding h) k
theorem wpG_sat {f : Unit → Sem β} (h : wpG M A (f ()) QB s) : wpG M A (standAt pos >>= f) QB s := wpG_bind (wpG_of (wpAny_standAt h))
theorem wpG_eq {a : α} (e : m = pure a) (h : wpG M A (f a) QB s) : wpG M A (m >>= f) QB s := wpG_bind (e ▸ wpG_pure h)
theorem wpG_onRaise {k : Value → Sem Unit} (h : wpG M A m Q s) : wpG M A (m.onRaise k) Q s := fun Γ p hΓ g => by
  rw [Sem.wp_onRaise]
  exact Sem.wp_mono M Γ m (fun _ _ _ h' => h') (fun _ _ _ h' => h'.elim) p s (h Γ p hΓ g)
theorem wpG_attempt {Q : Except Value α → Shared → Prop} (h : wpG M A m (fun a => Q (.ok a)) s) : wpG M A m.attempt Q s := fun Γ p hΓ g => by
  rw [Sem.wp_attempt]
  exact Sem.wp_mono M Γ m (fun _ _ _ h' => h') (fun _ _ _ h' => h'.elim) p s (h Γ p hΓ g)
theorem wpG_operate {m : Sem Value} {Q : Value → Shared → Prop} (h : wpG M A m Q s) : wpG M A (operate vs m) Q s := fun Γ p hΓ g => by
  rw [Sem.wp_operate]; exact h Γ p hΓ g
end
section
variable {M : Model} {A : Around} {s : Shared} {c : Code} {R : Flow → Shared → Prop}
theorem good_enter {Γ : Ctx} {hd : Option Value} {p : Pos} (g : Good Γ) : GoodB (Γ.enter c hd p).below := fun _ hx =>
  (List.mem_cons.mp hx).elim (fun e => e ▸ g.1) (g.2 _)
theorem mark_none (A : Around) : A.mark none = A := rfl
theorem wpG_run (hc : codeG M A c R s) : wpG M A (run c none) R s := fun Γ p hΓ g => by
  rw [Sem.wp_run]
  obtain ⟨r, s', h1, f, rfl, h2⟩ := hc (Γ.enter c none p) p rfl (hΓ.enter c none p (by intro x; cases x)) (good_enter g)
  exact ⟨_, s', h1, h2⟩
theorem wpG_runOwn {env : Env} (hc : codeG M A c R s) : wpG M A (runOwn c env none) R s := wpG_onRaise (wpG_run hc)
theorem wpG_call {f : Value} {pos : List Value} {kw : List (Str × Value)} {Q : Value → Shared → Prop} (hc : codeG M A (.call f ⟨pos, kw⟩) (fun fl s' => ∃ v, fl = .ret v ∧ Q v s') s) : wpG M A (PySem.call f pos kw) Q s := fun Γ p hΓ g => by
  show Sem.wp M Γ (runValue _) _ _ p s
  rw [Sem.wp_runValue]
  obtain ⟨r, s', h1, f, rfl, v, rfl, h2⟩ := hc (Γ.enter _ none p) p rfl (hΓ.enter _ none p (by intro x; cases x)) (good_enter g)
  exact ⟨_, s', h1, h2⟩
def after (M : Model) (A : Around) (R : Flow → Shared → Prop) (P : Code → Shared → Prop) (fin : Fin) (s' : Shared) : Prop := fin.casesOn (fun f => R f s') fun c' => (c'.quiet = true ∧ codeG M A c' R s') ∨ P c' s'
theorem codeG_of_tree (ok : okCode c = true) (h : wpG M (A.under c) (M.den c) (after M A R fun _ _ => False) s) : codeG M A c R s := fun Γ p hc hΓ g => by
  rw [wpCode_iff_wp, hc]
  refine Sem.wp_mono M Γ _ (fun fin p' s' h' => ?_) (fun _ _ _ h' => h'.elim) p s (h Γ p (hc ▸ hΓ.in) ⟨hc ▸ ok, g⟩)
  cases fin with
  | done f => exact ⟨f, rfl, h'⟩
  | again c' => exact h'.elim (fun h' => ⟨h'.1, h'.2 (Γ.goto c') p' rfl (hΓ.goto c') g⟩) False.elim
theorem codeG_of_any (h : codeAny M A c (fun r s' => ∃ f, r = .ok f ∧ R f s') s) : codeG M A c R s := fun Γ p hc hΓ _ => h Γ p hc hΓ
theorem codeG_loop (ok : okCode c = true) (hq : c.quiet = true) (I : Nat → Shared → Prop) (turn : ∀ n s, I n s → wpG M (A.under c) (M.den c) (after M A R fun c' s' => c' = c ∧ ∃ m, m < n ∧ I m s') s) (n : Nat) (h : I n s) : codeG M A c R s := by
  induction n using Nat.strongRecOn generalizing s with
  | ind n ih =>
    refine codeG_of_tree ok (wpG_mono (turn n s h) fun fin s' hf => ?_)
    cases fin with
    | done f => exact hf
    | again c' => exact .inl (hf.elim id fun ⟨e, m, hm, hI⟩ => e ▸ ⟨hq, ih m hm hI⟩)
end
section
variable {M : Model} {A : Around} {s : Shared} {env : Env} {pos : Pos} {l r x : PySem.Expr} {op op2 : CmpOp} {Q : Value → Shared → Prop} {QB : Bool → Shared → Prop} {QL : List Value → Shared → Prop}
theorem g_BinOp {op : Operator} (h : wpG M A (eval l env) (fun a s₁ => wpG M A (eval r env) (fun b s₂ => wpG M A (binaryOp op a b) Q s₂) s₁) s) : wpG M A (eval (.BinOp l op r pos) env) Q s := by
  rw [eval_BinOp]
  exact wpG_then h fun _ _ h₁ => wpG_hold h₁ fun _ _ h₂ => wpG_sat (wpG_operate h₂)
theorem g_UnaryOp {op : UnaryOp} (h : wpG M A (eval x env) (fun a s₁ => wpG M A (unaryOp op a) Q s₁) s) : wpG M A (eval (.UnaryOp op x pos) env) Q s := by
  rw [arm_eval_UnaryOp]
  exact wpG_then h fun _ _ h₁ => wpG_sat (wpG_holding h₁)
theorem g_cmp (hm : behindInMarks op r = false) (h : wpG M A (eval l env) (fun a s₁ => wpG M A (eval r env) (fun b s₂ => wpG M A (compareOp op a b) Q s₂) s₁) s) : wpG M A (eval (.Compare l [op] [r] pos) env) Q s := by
  rw [eval_Compare1]
  refine wpG_then h fun _ _ h₁ => ?_
  rw [markedBehindIn_of_false hm]
  exact wpG_hold h₁ fun _ _ h₂ => wpG_sat (wpG_operate h₂)
theorem t_cmp {whole : Sem Value} (hm : behindInMarks op r = false) (h : wpG M A (eval l env) (fun a s₁ => wpG M A (eval r env) (fun b s₂ => wpG M A (compareOp op a b) (fun c s₃ => wpG M A (truthy c) QB s₃) s₂) s₁) s) :
    wpG M A (isTrue (.Compare l [op] [r] pos) env whole) QB s := by
  rw [isTrue_Compare1]
  refine wpG_then h fun _ _ h₁ => ?_
  rw [markedBehindIn_of_false hm]
  exact wpG_hold h₁ fun _ _ h₂ => wpG_sat (wpG_then (wpG_operate h₂) fun _ _ h₃ => wpG_holding h₃)
theorem g_cmp2 {y : PySem.Expr} (hm : lastMarks [op, op2] [r, y] = false) (h : wpG M A (eval l env) (fun a s₁ => wpG M A (eval r env) (fun b s₂ => wpG M A (compareOp op a b) (fun c s₃ => ∃ t, c = .bool t ∧
      if t then wpG M A (eval y env) (fun d s₄ => wpG M A (compareOp op2 b d) Q s₄) s₃ else Q (.bool false) s₃) s₂) s₁) s) : wpG M A (eval (.Compare l [op, op2] [r, y] pos) env) Q s := by
  rw [arm_eval_Compare, markedEach_of_false _ _ _ hm]
  refine wpG_then h fun a s₁ h₁ => ?_
  show wpG M A (do
    let rv ← holding [a] (eval r env)
    standAt pos
    let c ← holding [a, rv] (compareOp op a rv)
    release [a, rv] [c]
    if ← holding [c, rv] (truthy c) then compareChain pos rv [op2] [eval y env] else pure c) Q s₁
  refine wpG_hold h₁ fun b s₂ h₂ => wpG_sat (wpG_hold h₂ fun c s₃ h₃ => wpG_bind (wpG_of (wpAny_release' ?_)))
  obtain ⟨t, rfl, h₃⟩ := h₃
  refine wpG_bind (wpG_holding (wpG_of (wpAny_truthy_bool ?_)))
  cases t with
  | false => exact wpG_pure h₃
  | true => exact wpG_hold h₃ fun _ _ h₄ => wpG_sat (wpG_operate h₄)
theorem t_cmp2 {y : PySem.Expr} {whole : Sem Value} (hm : lastMarks [op, op2] [r, y] = false) (h : wpG M A (eval l env) (fun a s₁ => wpG M A (eval r env) (fun b s₂ => wpG M A (compareOp op a b) (fun c s₃ => ∃ t, c = .bool t ∧
      if t then wpG M A (eval y env) (fun d s₄ => wpG M A (compareOp op2 b d) (fun c s₅ => wpG M A (truthy c) QB s₅) s₄) s₃ else QB false s₃) s₂) s₁) s) : wpG M A (isTrue (.Compare l [op, op2] [r, y] pos) env whole) QB s := by
  rw [arm_isTrue_Compare, markedEach_of_false _ _ _ hm]
  refine wpG_then h fun a s₁ h₁ => ?_
  show wpG M A (do
    let rv ← holding [a] (eval r env)
    standAt pos
    let c ← holding [a, rv] (compareOp op a rv)
    release [a, rv] [c]
    if ← holding [c, rv] (truthy c) then testChain pos rv [op2] [eval y env] else pure false) QB s₁
  refine wpG_hold h₁ fun b s₂ h₂ => wpG_sat (wpG_hold h₂ fun c s₃ h₃ => wpG_bind (wpG_of (wpAny_release' ?_)))
  obtain ⟨t, rfl, h₃⟩ := h₃
  refine wpG_bind (wpG_holding (wpG_of (wpAny_truthy_bool ?_)))
  cases t with
  | false => exact wpG_pure h₃
  | true => exact wpG_hold h₃ fun _ _ h₄ => wpG_sat (wpG_then (wpG_operate h₄) fun _ _ h₅ => wpG_holding h₅)
theorem t_not {whole : Sem Value} (h : wpG M A (isTrue x env (eval x env)) (fun b s₁ => QB (!b) s₁) s) : wpG M A (isTrue (.UnaryOp .Not x pos) env whole) QB s := by
  rw [arm_isTrue_UnaryOp]
  exact wpG_then h fun _ _ h₁ => wpG_pure h₁
theorem g_ite {t : PySem.Expr} (h : wpG M A (isTrue t env (eval t env)) (fun b s₁ => if b then wpG M A (eval l env) Q s₁ else wpG M A (eval r env) Q s₁) s) : wpG M A (eval (.IfExp t l r pos) env) Q s := by
  rw [arm_eval_IfExp]
  refine wpG_then h fun b s₁ h₁ => ?_
  cases b <;> exact h₁
theorem t_ite {t : PySem.Expr} {whole : Sem Value} (h : wpG M A (isTrue t env (eval t env)) (fun b s₁ => if b then wpG M A (isTrue l env (eval l env)) QB s₁ else wpG M A (isTrue r env (eval r env)) QB s₁) s) : wpG M A (isTrue (.IfExp t l r pos) env whole) QB s := by
  rw [arm_isTrue_IfExp]
  refine wpG_then h fun b s₁ h₁ => ?_
  cases b <;> exact h₁
theorem g_List {es : List PySem.Expr} (h : wpG M A (spliced (backTo pos (starEach es env))) (fun vs s₁ => wpG M A (newList vs) Q s₁) s) : wpG M A (eval (.List es pos) env) Q s := by
  rw [arm_eval_List]; exact wpG_sat (wpG_bind h)
theorem g_Tuple {es : List PySem.Expr} {j : Nat} (h : wpG M A (spliced (backTo pos (starEach es env))) (fun vs s₁ => wpG M A (newTuple vs) Q s₁) s) : wpG M A (eval (.Tuple es j pos) env) Q s := by
  rw [arm_eval_Tuple]; exact wpG_sat (wpG_bind h)
theorem g_sub (h : wpG M A (eval l env) (fun o s₁ => wpG M A (eval r env) (fun i s₂ => wpG M A (subscriptTail l r o i) Q s₂) s₁) s) : wpG M A (eval (.Subscript l r pos) env) Q s := by
  rw [eval_Subscript]
  exact wpG_then h fun _ _ h₁ => wpG_hold h₁ fun _ _ h₂ => wpG_sat h₂
theorem g_spl {x : Sem Value} {rest : List (Bool × Sem Value)} (h : wpG M A x (fun v s₁ => wpG M A (spliced rest) (fun vs s₂ => QL (v :: vs) s₂) s₁) s) : wpG M A (spliced ((false, x) :: rest)) QL s := by
  rw [spliced]
  refine wpG_then h fun v s₁ h₁ => ?_
  rw [if_neg Bool.false_ne_true]
  exact wpG_bind (wpG_pure (wpG_hold h₁ fun _ _ h₂ => wpG_pure h₂))
end
end
section
noncomputable def Op.py (o : Op) : Operator := o.casesOn .Add .Sub .Mult .FloorDiv .Mod .LShift .RShift .BitOr
noncomputable def Cp.py (o : Cp) : CmpOp := o.casesOn .Eq .NotEq .Lt .LtE .Gt .GtE .Is .IsNot .In .NotIn
noncomputable def Bi.text (b : Bi) : String := b.casesOn "len" "min" "max" "abs" "sum" "sorted" "bytes" "int" "list"
noncomputable def Bi.val (b : Bi) : Value := b.casesOn (.builtin "len") (.builtin "min") (.builtin "max") (.builtin "abs") (.builtin "sum") (.builtin "sorted") (.type "bytes") (.type "int") (.type "list")
noncomputable def vBool (x : PySem.Expr) (P : BoolOp → List PySem.Expr → Bool) : Bool := if h : x.ctorIdx = 0 then PySem.Expr.BoolOp.elim (motive_1 := fun _ => Bool) x h fun a b _ => P a b else false
theorem vBool_el {x : PySem.Expr} {P : BoolOp → List PySem.Expr → Bool} {C : PySem.Expr → Prop} (e : vBool x P = true) (k : ∀ a b c, P a b = true → C (.BoolOp a b c)) : C x := by
  unfold vBool at e
  by_cases h : x.ctorIdx = 0
  · rw [dif_pos h] at e
    exact PySem.Expr.BoolOp.elim (motive_1 := fun x => ∀ h, PySem.Expr.BoolOp.elim (motive_1 := fun _ => Bool) x h (fun a b _ => P a b) = true → C x) x h (fun a b c _ => k a b c) h e
  · rw [dif_neg h] at e; cases e
noncomputable def vBin (x : PySem.Expr) (P : PySem.Expr → Operator → PySem.Expr → Bool) : Bool := if h : x.ctorIdx = 2 then PySem.Expr.BinOp.elim (motive_1 := fun _ => Bool) x h fun a b c _ => P a b c else false
theorem vBin_el {x : PySem.Expr} {P : PySem.Expr → Operator → PySem.Expr → Bool} {C : PySem.Expr → Prop} (e : vBin x P = true) (k : ∀ a b c d, P a b c = true → C (.BinOp a b c d)) : C x := by
  unfold vBin at e
  by_cases h : x.ctorIdx = 2
  · rw [dif_pos h] at e
    exact PySem.Expr.BinOp.elim (motive_1 := fun x => ∀ h, PySem.Expr.BinOp.elim (motive_1 := fun _ => Bool) x h (fun a b c _ => P a b c) = true → C x) x h (fun a b c d _ => k a b c d) h e
  · rw [dif_neg h] at e; cases e
noncomputable def vUn (x : PySem.Expr) (P : UnaryOp → PySem.Expr → Bool) : Bool := if h : x.ctorIdx = 3 then PySem.Expr.UnaryOp.elim (motive_1 := fun _ => Bool) x h fun a b _ => P a b else false
theorem vUn_el {x : PySem.Expr} {P : UnaryOp → PySem.Expr → Bool} {C : PySem.Expr → Prop} (e : vUn x P = true) (k : ∀ a b c, P a b = true → C (.UnaryOp a b c)) : C x := by
  unfold vUn at e
  by_cases h : x.ctorIdx = 3
  · rw [dif_pos h] at e
    exact PySem.Expr.UnaryOp.elim (motive_1 := fun x => ∀ h, PySem.Expr.UnaryOp.elim (motive_1 := fun _ => Bool) x h (fun a b _ => P a b) = true → C x) x h (fun a b c _ => k a b c) h e
  · rw [dif_neg h] at e; cases e
noncomputable def vIf (x : PySem.Expr) (P : PySem.Expr → PySem.Expr → PySem.Expr → Bool) : Bool := if h : x.ctorIdx = 5 then PySem.Expr.IfExp.elim (motive_1 := fun _ => Bool) x h fun a b c _ => P a b c else false
theorem vIf_el {x : PySem.Expr} {P : PySem.Expr → PySem.Expr → PySem.Expr → Bool} {C : PySem.Expr → Prop} (e : vIf x P = true) (k : ∀ a b c d, P a b c = true → C (.IfExp a b c d)) : C x := by
  unfold vIf at e
  by_cases h : x.ctorIdx = 5
  · rw [dif_pos h] at e
    exact PySem.Expr.IfExp.elim (motive_1 := fun x => ∀ h, PySem.Expr.IfExp.elim (motive_1 := fun _ => Bool) x h (fun a b c _ => P a b c) = true → C x) x h (fun a b c d _ => k a b c d) h e
  · rw [dif_neg h] at e; cases e
noncomputable def vDic (x : PySem.Expr) (P : List (Option PySem.Expr) → List PySem.Expr → Bool) : Bool := if h : x.ctorIdx = 6 then PySem.Expr.Dict.elim (motive_1 := fun _ => Bool) x h fun a b _ => P a b else false
theorem vDic_el {x : PySem.Expr} {P : List (Option PySem.Expr) → List PySem.Expr → Bool} {C : PySem.Expr → Prop} (e : vDic x P = true) (k : ∀ a b c, P a b = true → C (.Dict a b c)) : C x := by
  unfold vDic at e
  by_cases h : x.ctorIdx = 6
  · rw [dif_pos h] at e
    exact PySem.Expr.Dict.elim (motive_1 := fun x => ∀ h, PySem.Expr.Dict.elim (motive_1 := fun _ => Bool) x h (fun a b _ => P a b) = true → C x) x h (fun a b c _ => k a b c) h e
  · rw [dif_neg h] at e; cases e
noncomputable def vComp (x : PySem.Expr) (P : PySem.Expr → List Comprehension → Scope → Bool) : Bool := if h : x.ctorIdx = 8 then PySem.Expr.ListComp.elim (motive_1 := fun _ => Bool) x h fun a b c _ => P a b c else false
theorem vComp_el {x : PySem.Expr} {P : PySem.Expr → List Comprehension → Scope → Bool} {C : PySem.Expr → Prop} (e : vComp x P = true) (k : ∀ a b c d, P a b c = true → C (.ListComp a b c d)) : C x := by
  unfold vComp at e
  by_cases h : x.ctorIdx = 8
  · rw [dif_pos h] at e
    exact PySem.Expr.ListComp.elim (motive_1 := fun x => ∀ h, PySem.Expr.ListComp.elim (motive_1 := fun _ => Bool) x h (fun a b c _ => P a b c) = true → C x) x h (fun a b c d _ => k a b c d) h e
  · rw [dif_neg h] at e; cases e
noncomputable def vCmp (x : PySem.Expr) (P : PySem.Expr → List CmpOp → List PySem.Expr → Bool) : Bool := if h : x.ctorIdx = 15 then PySem.Expr.Compare.elim (motive_1 := fun _ => Bool) x h fun a b c _ => P a b c else false
theorem vCmp_el {x : PySem.Expr} {P : PySem.Expr → List CmpOp → List PySem.Expr → Bool} {C : PySem.Expr → Prop} (e : vCmp x P = true) (k : ∀ a b c d, P a b c = true → C (.Compare a b c d)) : C x := by
  unfold vCmp at e
  by_cases h : x.ctorIdx = 15
  · rw [dif_pos h] at e
    exact PySem.Expr.Compare.elim (motive_1 := fun x => ∀ h, PySem.Expr.Compare.elim (motive_1 := fun _ => Bool) x h (fun a b c _ => P a b c) = true → C x) x h (fun a b c d _ => k a b c d) h e
  · rw [dif_neg h] at e; cases e
noncomputable def vCall (x : PySem.Expr) (P : PySem.Expr → List PySem.Expr → List Keyword → Pos → Bool) : Bool := if h : x.ctorIdx = 16 then PySem.Expr.Call.elim (motive_1 := fun _ => Bool) x h fun a b c d => P a b c d else false
theorem vCall_el {x : PySem.Expr} {P : PySem.Expr → List PySem.Expr → List Keyword → Pos → Bool} {C : PySem.Expr → Prop} (e : vCall x P = true) (k : ∀ a b c d, P a b c d = true → C (.Call a b c d)) : C x := by
  unfold vCall at e
  by_cases h : x.ctorIdx = 16
  · rw [dif_pos h] at e
    exact PySem.Expr.Call.elim (motive_1 := fun x => ∀ h, PySem.Expr.Call.elim (motive_1 := fun _ => Bool) x h (fun a b c d => P a b c d) = true → C x) x h (fun a b c d _ => k a b c d) h e
  · rw [dif_neg h] at e; cases e
noncomputable def vCon (x : PySem.Expr) (P : Const → Bool) : Bool := if h : x.ctorIdx = 19 then PySem.Expr.Constant.elim (motive_1 := fun _ => Bool) x h fun a _ _ => P a else false
theorem vCon_el {x : PySem.Expr} {P : Const → Bool} {C : PySem.Expr → Prop} (e : vCon x P = true) (k : ∀ a b c, P a = true → C (.Constant a b c)) : C x := by
  unfold vCon at e
  by_cases h : x.ctorIdx = 19
  · rw [dif_pos h] at e
    exact PySem.Expr.Constant.elim (motive_1 := fun x => ∀ h, PySem.Expr.Constant.elim (motive_1 := fun _ => Bool) x h (fun a _ _ => P a) = true → C x) x h (fun a b c _ => k a b c) h e
  · rw [dif_neg h] at e; cases e
noncomputable def vAttr (x : PySem.Expr) (P : PySem.Expr → Str → Pos → Bool) : Bool := if h : x.ctorIdx = 20 then PySem.Expr.Attribute.elim (motive_1 := fun _ => Bool) x h fun a b c => P a b c else false
theorem vAttr_el {x : PySem.Expr} {P : PySem.Expr → Str → Pos → Bool} {C : PySem.Expr → Prop} (e : vAttr x P = true) (k : ∀ a b c, P a b c = true → C (.Attribute a b c)) : C x := by
  unfold vAttr at e
  by_cases h : x.ctorIdx = 20
  · rw [dif_pos h] at e
    exact PySem.Expr.Attribute.elim (motive_1 := fun x => ∀ h, PySem.Expr.Attribute.elim (motive_1 := fun _ => Bool) x h (fun a b c => P a b c) = true → C x) x h (fun a b c _ => k a b c) h e
  · rw [dif_neg h] at e; cases e
noncomputable def vSub (x : PySem.Expr) (P : PySem.Expr → PySem.Expr → Bool) : Bool := if h : x.ctorIdx = 21 then PySem.Expr.Subscript.elim (motive_1 := fun _ => Bool) x h fun a b _ => P a b else false
theorem vSub_el {x : PySem.Expr} {P : PySem.Expr → PySem.Expr → Bool} {C : PySem.Expr → Prop} (e : vSub x P = true) (k : ∀ a b c, P a b = true → C (.Subscript a b c)) : C x := by
  unfold vSub at e
  by_cases h : x.ctorIdx = 21
  · rw [dif_pos h] at e
    exact PySem.Expr.Subscript.elim (motive_1 := fun x => ∀ h, PySem.Expr.Subscript.elim (motive_1 := fun _ => Bool) x h (fun a b _ => P a b) = true → C x) x h (fun a b c _ => k a b c) h e
  · rw [dif_neg h] at e; cases e
noncomputable def vName (x : PySem.Expr) (P : Str → Bool) : Bool := if h : x.ctorIdx = 23 then PySem.Expr.Name.elim (motive_1 := fun _ => Bool) x h fun a _ => P a else false
theorem vName_el {x : PySem.Expr} {P : Str → Bool} {C : PySem.Expr → Prop} (e : vName x P = true) (k : ∀ a b, P a = true → C (.Name a b)) : C x := by
  unfold vName at e
  by_cases h : x.ctorIdx = 23
  · rw [dif_pos h] at e
    exact PySem.Expr.Name.elim (motive_1 := fun x => ∀ h, PySem.Expr.Name.elim (motive_1 := fun _ => Bool) x h (fun a _ => P a) = true → C x) x h (fun a b _ => k a b) h e
  · rw [dif_neg h] at e; cases e
noncomputable def vLst (x : PySem.Expr) (P : List PySem.Expr → Bool) : Bool := if h : x.ctorIdx = 24 then PySem.Expr.List.elim (motive_1 := fun _ => Bool) x h fun a _ => P a else false
theorem vLst_el {x : PySem.Expr} {P : List PySem.Expr → Bool} {C : PySem.Expr → Prop} (e : vLst x P = true) (k : ∀ a b, P a = true → C (.List a b)) : C x := by
  unfold vLst at e
  by_cases h : x.ctorIdx = 24
  · rw [dif_pos h] at e
    exact PySem.Expr.List.elim (motive_1 := fun x => ∀ h, PySem.Expr.List.elim (motive_1 := fun _ => Bool) x h (fun a _ => P a) = true → C x) x h (fun a b _ => k a b) h e
  · rw [dif_neg h] at e; cases e
noncomputable def vTup (x : PySem.Expr) (P : List PySem.Expr → Bool) : Bool := if h : x.ctorIdx = 25 then PySem.Expr.Tuple.elim (motive_1 := fun _ => Bool) x h fun a _ _ => P a else false
theorem vTup_el {x : PySem.Expr} {P : List PySem.Expr → Bool} {C : PySem.Expr → Prop} (e : vTup x P = true) (k : ∀ a b c, P a = true → C (.Tuple a b c)) : C x := by
  unfold vTup at e
  by_cases h : x.ctorIdx = 25
  · rw [dif_pos h] at e
    exact PySem.Expr.Tuple.elim (motive_1 := fun x => ∀ h, PySem.Expr.Tuple.elim (motive_1 := fun _ => Bool) x h (fun a _ _ => P a) = true → C x) x h (fun a b c _ => k a b c) h e
  · rw [dif_neg h] at e; cases e
noncomputable def vSlice (x : PySem.Expr) (P : Option PySem.Expr → Option PySem.Expr → Option PySem.Expr → Bool) : Bool := if h : x.ctorIdx = 26 then PySem.Expr.Slice.elim (motive_1 := fun _ => Bool) x h fun a b c _ => P a b c else false
theorem vSlice_el {x : PySem.Expr} {P : Option PySem.Expr → Option PySem.Expr → Option PySem.Expr → Bool} {C : PySem.Expr → Prop} (e : vSlice x P = true) (k : ∀ a b c d, P a b c = true → C (.Slice a b c d)) : C x := by
  unfold vSlice at e
  by_cases h : x.ctorIdx = 26
  · rw [dif_pos h] at e
    exact PySem.Expr.Slice.elim (motive_1 := fun x => ∀ h, PySem.Expr.Slice.elim (motive_1 := fun _ => Bool) x h (fun a b c _ => P a b c) = true → C x) x h (fun a b c d _ => k a b c d) h e
  · rw [dif_neg h] at e; cases e
noncomputable def vRet (x : PySem.Stmt) (P : Option PySem.Expr → Bool) : Bool := if h : x.ctorIdx = 3 then PySem.Stmt.Return.elim (motive_2 := fun _ => Bool) x h fun a _ => P a else false
theorem vRet_el {x : PySem.Stmt} {P : Option PySem.Expr → Bool} {C : PySem.Stmt → Prop} (e : vRet x P = true) (k : ∀ a b, P a = true → C (.Return a b)) : C x := by
  unfold vRet at e
  by_cases h : x.ctorIdx = 3
  · rw [dif_pos h] at e
    exact PySem.Stmt.Return.elim (motive_2 := fun x => ∀ h, PySem.Stmt.Return.elim (motive_2 := fun _ => Bool) x h (fun a _ => P a) = true → C x) x h (fun a b _ => k a b) h e
  · rw [dif_neg h] at e; cases e
noncomputable def vAsg (x : PySem.Stmt) (P : List PySem.Expr → PySem.Expr → Bool) : Bool := if h : x.ctorIdx = 5 then PySem.Stmt.Assign.elim (motive_2 := fun _ => Bool) x h fun a b _ => P a b else false
theorem vAsg_el {x : PySem.Stmt} {P : List PySem.Expr → PySem.Expr → Bool} {C : PySem.Stmt → Prop} (e : vAsg x P = true) (k : ∀ a b c, P a b = true → C (.Assign a b c)) : C x := by
  unfold vAsg at e
  by_cases h : x.ctorIdx = 5
  · rw [dif_pos h] at e
    exact PySem.Stmt.Assign.elim (motive_2 := fun x => ∀ h, PySem.Stmt.Assign.elim (motive_2 := fun _ => Bool) x h (fun a b _ => P a b) = true → C x) x h (fun a b c _ => k a b c) h e
  · rw [dif_neg h] at e; cases e
noncomputable def vAug (x : PySem.Stmt) (P : PySem.Expr → Operator → PySem.Expr → Bool) : Bool := if h : x.ctorIdx = 7 then PySem.Stmt.AugAssign.elim (motive_2 := fun _ => Bool) x h fun a b c _ => P a b c else false
theorem vAug_el {x : PySem.Stmt} {P : PySem.Expr → Operator → PySem.Expr → Bool} {C : PySem.Stmt → Prop} (e : vAug x P = true) (k : ∀ a b c d, P a b c = true → C (.AugAssign a b c d)) : C x := by
  unfold vAug at e
  by_cases h : x.ctorIdx = 7
  · rw [dif_pos h] at e
    exact PySem.Stmt.AugAssign.elim (motive_2 := fun x => ∀ h, PySem.Stmt.AugAssign.elim (motive_2 := fun _ => Bool) x h (fun a b c _ => P a b c) = true → C x) x h (fun a b c d _ => k a b c d) h e
  · rw [dif_neg h] at e; cases e
noncomputable def vFor (x : PySem.Stmt) (P : PySem.Expr → PySem.Expr → List PySem.Stmt → List PySem.Stmt → Bool) : Bool := if h : x.ctorIdx = 9 then PySem.Stmt.For.elim (motive_2 := fun _ => Bool) x h fun a b c d _ => P a b c d else false
theorem vFor_el {x : PySem.Stmt} {P : PySem.Expr → PySem.Expr → List PySem.Stmt → List PySem.Stmt → Bool} {C : PySem.Stmt → Prop} (e : vFor x P = true) (k : ∀ a b c d e, P a b c d = true → C (.For a b c d e)) : C x := by
  unfold vFor at e
  by_cases h : x.ctorIdx = 9
  · rw [dif_pos h] at e
    exact PySem.Stmt.For.elim (motive_2 := fun x => ∀ h, PySem.Stmt.For.elim (motive_2 := fun _ => Bool) x h (fun a b c d _ => P a b c d) = true → C x) x h (fun a b c d e _ => k a b c d e) h e
  · rw [dif_neg h] at e; cases e
noncomputable def vWh (x : PySem.Stmt) (P : PySem.Expr → List PySem.Stmt → List PySem.Stmt → Bool) : Bool := if h : x.ctorIdx = 11 then PySem.Stmt.While.elim (motive_2 := fun _ => Bool) x h fun a b c _ => P a b c else false
theorem vWh_el {x : PySem.Stmt} {P : PySem.Expr → List PySem.Stmt → List PySem.Stmt → Bool} {C : PySem.Stmt → Prop} (e : vWh x P = true) (k : ∀ a b c d, P a b c = true → C (.While a b c d)) : C x := by
  unfold vWh at e
  by_cases h : x.ctorIdx = 11
  · rw [dif_pos h] at e
    exact PySem.Stmt.While.elim (motive_2 := fun x => ∀ h, PySem.Stmt.While.elim (motive_2 := fun _ => Bool) x h (fun a b c _ => P a b c) = true → C x) x h (fun a b c d _ => k a b c d) h e
  · rw [dif_neg h] at e; cases e
noncomputable def vIfS (x : PySem.Stmt) (P : PySem.Expr → List PySem.Stmt → List PySem.Stmt → Bool) : Bool := if h : x.ctorIdx = 12 then PySem.Stmt.If.elim (motive_2 := fun _ => Bool) x h fun a b c _ => P a b c else false
theorem vIfS_el {x : PySem.Stmt} {P : PySem.Expr → List PySem.Stmt → List PySem.Stmt → Bool} {C : PySem.Stmt → Prop} (e : vIfS x P = true) (k : ∀ a b c d, P a b c = true → C (.If a b c d)) : C x := by
  unfold vIfS at e
  by_cases h : x.ctorIdx = 12
  · rw [dif_pos h] at e
    exact PySem.Stmt.If.elim (motive_2 := fun x => ∀ h, PySem.Stmt.If.elim (motive_2 := fun _ => Bool) x h (fun a b c _ => P a b c) = true → C x) x h (fun a b c d _ => k a b c d) h e
  · rw [dif_neg h] at e; cases e
noncomputable def vTry (x : PySem.Stmt) (P : List PySem.Stmt → List ExceptHandler → List PySem.Stmt → List PySem.Stmt → Bool) : Bool := if h : x.ctorIdx = 17 then PySem.Stmt.Try.elim (motive_2 := fun _ => Bool) x h fun a b c d _ => P a b c d else false
theorem vTry_el {x : PySem.Stmt} {P : List PySem.Stmt → List ExceptHandler → List PySem.Stmt → List PySem.Stmt → Bool} {C : PySem.Stmt → Prop} (e : vTry x P = true) (k : ∀ a b c d e, P a b c d = true → C (.Try a b c d e)) : C x := by
  unfold vTry at e
  by_cases h : x.ctorIdx = 17
  · rw [dif_pos h] at e
    exact PySem.Stmt.Try.elim (motive_2 := fun x => ∀ h, PySem.Stmt.Try.elim (motive_2 := fun _ => Bool) x h (fun a b c d _ => P a b c d) = true → C x) x h (fun a b c d e _ => k a b c d e) h e
  · rw [dif_neg h] at e; cases e
noncomputable def vEx (x : PySem.Stmt) (P : PySem.Expr → Bool) : Bool := if h : x.ctorIdx = 24 then PySem.Stmt.Expr.elim (motive_2 := fun _ => Bool) x h fun a _ => P a else false
theorem vEx_el {x : PySem.Stmt} {P : PySem.Expr → Bool} {C : PySem.Stmt → Prop} (e : vEx x P = true) (k : ∀ a b, P a = true → C (.Expr a b)) : C x := by
  unfold vEx at e
  by_cases h : x.ctorIdx = 24
  · rw [dif_pos h] at e
    exact PySem.Stmt.Expr.elim (motive_2 := fun x => ∀ h, PySem.Stmt.Expr.elim (motive_2 := fun _ => Bool) x h (fun a _ => P a) = true → C x) x h (fun a b _ => k a b) h e
  · rw [dif_neg h] at e; cases e
noncomputable def on1 {α : Type} (l : List α) (P : α → Bool) : Bool := l.casesOn false fun a r => r.casesOn (P a) fun _ _ => false
noncomputable def on2 {α : Type} (l : List α) (P : α → α → Bool) : Bool := l.casesOn false fun a r => on1 r (P a)
theorem on1_el {α : Type} {l : List α} {P : α → Bool} {C : List α → Prop} (e : on1 l P = true) (k : ∀ a, P a = true → C [a]) : C l := by
  cases l with
  | nil => cases e
  | cons a r => cases r with
    | nil => exact k a e
    | cons b r => cases e
theorem on2_el {α : Type} {l : List α} {P : α → α → Bool} {C : List α → Prop} (e : on2 l P = true) (k : ∀ a b, P a b = true → C [a, b]) : C l := by
  cases l with
  | nil => cases e
  | cons a r => exact on1_el (C := fun r => C (a :: r)) e (k a)
theorem and_el {a b : Bool} (h : (a && b) = true) : a = true ∧ b = true := Bool.and_eq_true_iff.mp h
theorem dec_el {α : Type} {a b : α} [DecidableEq α] {C : α → Prop} (e : decide (a = b) = true) (k : C b) : C a := (of_decide_eq_true e).symm ▸ k
noncomputable def constOk (d : D) (k : Const) : Bool := d.casesOn (decide (k = .none)) (fun b => decide (k = .bool b)) (fun i => decide (k = .int i)) (fun n => decide (k = .str n.str)) (fun l => decide (k = .bytes l)) (fun _ => false) fun _ => false
noncomputable def isVar (k : Option NameKind) : Bool := k == some .local || k == some .cell || k == some .free
noncomputable def okNm (x : Str) : Bool := !(x == ("__debug__" : Str)) && !(x == ("__classdict__" : Str))
noncomputable def glob (sc : Scope) (t : Str) (x : PySem.Expr) : Bool := vName x fun y => y == t && (sc.names.lookup y == some .globalImplicit && !(y == ("__debug__" : Str)))
noncomputable def varOk (sc : Scope) (nf : Nat → Option Str) (i : Nat) (y : Str) : Bool := nf i == some y && isVar (sc.names.lookup y)
noncomputable def notSuper (x : PySem.Expr) : Bool := !(vCall x fun f a k _ => a.isEmpty && k.isEmpty && vName f fun y => y == ("super" : Str))
noncomputable def noStar (x : PySem.Expr) : Bool := x.ctorIdx != 22
noncomputable def noSet (x : PySem.Expr) : Bool := x.ctorIdx != 7
noncomputable def noSlice (x : PySem.Expr) : Bool := x.ctorIdx != 26
noncomputable def noObj (n : N) : Bool := decide (fastLookup "object" n.str = some none)
noncomputable def nodupNat : List Nat → Bool
  | [] => true
  | i :: r => !r.contains i && nodupNat r
noncomputable def nodupTx : List Str → Bool
  | [] => true
  | i :: r => !r.contains i && nodupTx r
noncomputable def allNames : List PySem.Expr → (List Str → Bool) → Bool
  | [] => fun P => P []
  | e :: r => fun P => vName e fun x => allNames r fun l => P (x :: l)
noncomputable def tgt (pk : Bool) (x : PySem.Expr) (P : List Str → Bool) : Bool := @Bool.rec (fun _ => Bool) (vName x fun y => P [y]) (vTup x fun es => allNames es P) pk
noncomputable def nmIn (sc : Scope) (nf : Nat → Option Str) (ts : List Nat) (xs : List Str) (i : Nat) : Option Str := ((ts.zip xs).lookup i).rec ((nf i).filter fun x => sc.names.lookup x == some .free) some
def inComp (sc sc' : Scope) : Scope := { sc' with names := sc'.names.map fun (n, k) => if k == .free && sc.kind == .function && sc.names.lookup n == some .cell then (n, .cell) else (n, k) }
noncomputable def scOk (sc : Scope) (xs : List Str) : Bool := sc.kind == .function && sc.names.all (fun y => y.2 != .cell && (y.2 != .local || sc.names.lookup y.1 == some .local)) && xs.all fun x => sc.names.lookup x == some .local
noncomputable def keysOk : List N → List (Option PySem.Expr) → Bool
  | [] => fun l => l.isEmpty
  | n :: r => fun l => l.casesOn false fun a l => a.any (fun x => vCon x fun k => decide (k = .str n.str)) && keysOk r l
noncomputable def nodupN : List N → Bool
  | [] => true
  | n :: r => !keysIn n r && nodupN r
noncomputable def plain (kw : List Keyword) (args : List PySem.Expr) : Bool := kw.isEmpty && decide (args.length ≤ 20)
mutual
noncomputable def decE (nf : Nat → Option Str) : E → Scope → PySem.Expr → Bool
  | .any => fun _ _ => true
  | .cst d => fun _ x => vCon x (constOk d)
  | .var i => fun sc x => vName x fun y => varOk sc nf i y && okNm y
  | .gcon n => fun sc x => glob sc n.str x
  | .bin o a b => fun sc x => vBin x fun l p r => decide (p = o.py) && (decE nf a sc l && decE nf b sc r)
  | .cmp o a b => fun sc x => vCmp x fun l ps rs => on1 ps fun p => on1 rs fun r => (decide (p = o.py) && !behindInMarks o.py r) && (decE nf a sc l && decE nf b sc r)
  | .cmp2 a o1 b o2 c => fun sc x => vCmp x fun l ps rs => on2 ps fun p q => on2 rs fun r y => (decide (p = o1.py) && (decide (q = o2.py) && !lastMarks [o1.py, o2.py] [r, y])) && (decE nf a sc l && (decE nf b sc r && decE nf c sc y))
  | .inTop a n => fun sc x => vCmp x fun l ps rs => on1 ps fun p => on1 rs fun r => (decide (p = .In) && !(topKeys n).isEmpty) && (glob sc n.str r && decE nf a sc l)
  | .not a => fun sc x => vUn x fun u y => decide (u = .Not) && decE nf a sc y
  | .neg a => fun sc x => vUn x fun u y => decide (u = .USub) && decE nf a sc y
  | .and l => fun sc x => vBool x fun o vs => (decide (o = .And) && !vs.isEmpty) && decL nf l sc vs
  | .or l => fun sc x => vBool x fun o vs => (decide (o = .Or) && !vs.isEmpty) && decL nf l sc vs
  | .ite c a b => fun sc x => vIf x fun t y z => decE nf c sc t && (decE nf a sc y && decE nf b sc z)
  | .tup l => fun sc x => vTup x fun es => decL nf l sc es && decide (es.length ≤ 1000)
  | .lst l => fun sc x => vLst x fun es => decL nf l sc es && decide (es.length ≤ 1000)
  | .glst l => fun sc x => vLst x fun es => decL nf l sc es && decide (es.length ≤ 1000)
  | .log => fun _ x => vLst x fun es => es.isEmpty
  | .glist a => fun sc x => vCall x fun f es kw _ => kw.isEmpty && (glob sc (Str.ofString "list") f && on1 es fun e => noStar e && decE nf a sc e)
  | .dic0 => fun _ x => vDic x fun ps vs => ps.isEmpty && vs.isEmpty
  | .dict ks l => fun sc x => vDic x fun ps vs => ((!ks.isEmpty && keysOk ks ps) && (nodupN ks && decide (vs.length ≤ 15))) && (decide (ks.length = vs.length) && decL nf l sc vs)
  | .attr a n => fun sc x => vAttr x fun v t _ => (decide (t = n.str) && (notSuper v && noObj n)) && decE nf a sc v
  | .idx a i => fun sc x => vSub x fun v s => noSlice s && (decE nf a sc v && decE nf i sc s)
  | .slice a lo hi => fun sc x => vSub x fun v s => vSlice s fun l u t => t.isNone && (decE nf a sc v && (decX nf lo sc l && decX nf hi sc u))
  | .call f l => fun sc x => vCall x fun g es kw _ => plain kw es && (glob sc f.str g && decL nf l sc es)
  | .new c l => fun sc x => vCall x fun g es kw _ => (plain kw es && !(attrsOf c).isEmpty) && (glob sc c.str g && decL nf l sc es)
  | .meth a m l => fun sc x => vCall x fun g es kw p => plain kw es && vAttr g fun v t ap => ((ap.endLine == p.line) && (decide (t = m.str) && (notSuper v && noObj m))) && (decE nf a sc v && decL nf l sc es)
  | .bi b l => fun sc x => vCall x fun g es kw _ => plain kw es && (glob sc (Str.ofString b.text) g && decL nf l sc es)
  | .comp e ts pk rg it c => fun sc x => vComp x fun y gs sc' => on1 gs fun g => (decide (g.is_async = 0) && noSet g.iter) && tgt pk g.target fun xs => (decide (xs.length = ts.length) && (nodupNat ts && (nodupTx xs && (scOk sc' xs && sc'.names.all fun y => y.2 != .free || sc.names.lookup y.1 == some .cell)))) &&
      (@Bool.rec (fun _ => Bool) (decX nf it sc (some g.iter)) (vCall g.iter fun f es kw _ => plain kw es && (glob sc (Str.ofString "range") f && decL nf it sc es)) rg && (decE (nmIn sc' nf ts xs) e (inComp sc sc') y && decC (nmIn sc' nf ts xs) c (inComp sc sc') g.ifs))
noncomputable def decC (nf : Nat → Option Str) : List E → Scope → List PySem.Expr → Bool
  | [] => fun _ xs => xs.isEmpty
  | e :: r => fun sc xs => r.isEmpty && on1 xs (decE nf e sc)
noncomputable def decX (nf : Nat → Option Str) : List E → Scope → Option PySem.Expr → Bool
  | [] => fun _ x => x.isNone
  | e :: r => fun sc x => r.isEmpty && x.any (decE nf e sc)
noncomputable def decL (nf : Nat → Option Str) : List E → Scope → List PySem.Expr → Bool
  | [] => fun _ xs => xs.isEmpty
  | e :: l => fun sc xs => xs.casesOn false fun x r => noStar x && (decE nf e sc x && decL nf l sc r)
end
noncomputable def notComp (x : PySem.Expr) : Bool := x.ctorIdx != 8 && (x.ctorIdx != 9 && x.ctorIdx != 10)
noncomputable def decT (nf : Nat → Option Str) (sc : Scope) (t : T) (x : PySem.Expr) : Bool := t.casesOn (fun i => vName x (varOk sc nf i)) (fun a n => vAttr x fun v y _ => (decide (y = n.str) && noObj n) && decE nf a sc v)
  fun a i => vSub x fun v s => noSlice s && (decE nf a sc v && decE nf i sc s)
noncomputable def decTs (nf : Nat → Option Str) (sc : Scope) : List T → List PySem.Expr → Bool
  | [] => fun xs => xs.isEmpty
  | t :: l => fun xs => xs.casesOn false fun x r => decT nf sc t x && decTs nf sc l r
noncomputable def decVs (nf : Nat → Option Str) (sc : Scope) : List Nat → List PySem.Expr → Bool
  | [] => fun xs => xs.isEmpty
  | i :: l => fun xs => xs.casesOn false fun x r => vName x (varOk sc nf i) && decVs nf sc l r
noncomputable def decH (nf : Nat → Option Str) (sc : Scope) : Nat → List E → List PySem.Expr → Bool
  | 0 => fun l xs => xs.casesOn false fun x r => vLst x (fun es => es.isEmpty) && decL nf l sc r
  | k + 1 => fun l xs => l.casesOn false fun e l => xs.casesOn false fun x r => noStar x && (decE nf e sc x && decH nf sc k l r)
noncomputable def vPar (x : PySem.Stmt) (P : List PySem.Expr → List PySem.Expr → Bool) : Bool := vAsg x fun ts v => on1 ts fun t => vTup t fun a => vTup v fun b => P a b
noncomputable def own1 (nf : Nat → Option Str) (sc : Scope) (i : Nat) (x : PySem.Expr) : Bool := vName x fun y => varOk sc nf i y && okNm y
mutual
noncomputable def decS (nf : Nat → Option Str) (sc : Scope) : S → PySem.Stmt → Bool
  | .any => fun _ => true
  | .asg t e => fun x => vAsg x fun ts v => on1 ts fun p => notComp v && (decT nf sc t p && decE nf e sc v)
  | .par ts es => fun x => vPar x fun ps vs => (decide (vs.length ≤ 10) && (decide (ts.length = es.length) && ps.any fun p => p.ctorIdx != 23)) && (decTs nf sc ts ps && decL nf es sc vs)
  | .parV is es => fun x => vPar x fun ps vs => (decide (vs.length ≤ 10) && (nodupNat is && !vs.all (constantsAlone 8))) && (decVs nf sc is ps && decL nf es sc vs)
  | .parOwn is k es => fun x => vPar x fun ps vs => (decide (vs.length ≤ 10) && (nodupNat is && (decide (is.length = es.length + 1) && !vs.all (constantsAlone 8)))) && (decVs nf sc is ps && decH nf sc k es vs)
  | .unp is e => fun x => vAsg x fun ts v => on1 ts fun t => vTup t fun ps => (notComp v && (decide (is.length ≤ 10) && v.ctorIdx != 25)) && (decVs nf sc is ps && decE nf e sc v)
  | .aug t e => fun x => vAug x fun p o v => decide (o = .Add) && (p.ctorIdx != 23 && (decT nf sc t p && decE nf e sc v))
  | .ex e => fun x => vEx x fun v => notComp v && decE nf e sc v
  | .iff c a b => fun x => vIfS x fun t y z => decE nf c sc t && (decB nf sc a y && decB nf sc b z)
  | .for ts pk rg it b => fun x => vFor x fun t i y z => ((z.isEmpty && noSet i) && (@Bool.rec (fun _ => Bool) (decVs nf sc ts [t]) (vTup t fun es => decide (ts.length ≤ 10) && decVs nf sc ts es) pk && nodupNat ts)) &&
      (@Bool.rec (fun _ => Bool) (decX nf it sc (some i)) (vCall i fun f es kw _ => plain kw es && (glob sc (Str.ofString "range") f && decL nf it sc es)) rg && decB nf sc b y)
  | .wh c b => fun x => vWh x fun t y z => z.isEmpty && (decE nf c sc t && decB nf sc b y)
  | .ret e => fun x => vRet x fun v => v.any (decE nf e sc)
  | .retn => fun x => vRet x fun v => v.isNone
  | .try b => fun x => vTry x fun y h o f => (on1 h (fun _ => true) && (o.isEmpty && f.isEmpty)) && decB nf sc b y
  | .own i => fun x => vAsg x fun ts v => on1 ts fun t => vName t (varOk sc nf i) && vLst v fun es => es.isEmpty
  | .ownB i e => fun x => vAsg x fun ts v => on1 ts fun t => vName t (varOk sc nf i) && vCall v fun f es kw _ => plain kw es && (glob sc (Str.ofString "bytearray") f && on1 es fun a => noStar a && decE nf e sc a)
  | .app i e => fun x => vEx x fun v => vCall v fun g es kw p => plain kw es && vAttr g fun o t ap => ((ap.endLine == p.line) && (decide (t = Str.ofString "append") && own1 nf sc i o)) && on1 es fun a => noStar a && decE nf e sc a
  | .setB i k e => fun x => vAsg x fun ts v => on1 ts fun t => vSub t fun o s => (notComp v && (noSlice s && own1 nf sc i o)) && (decE nf k sc s && decE nf e sc v)
  | .frz => fun _ => false
  | .retB i => fun x => vRet x fun v => v.any fun v => vCall v fun g es kw _ => plain kw es && (glob sc (Str.ofString "bytes") g && on1 es (own1 nf sc i))
  | .asgC i e ts pk rg it c => fun x => vAsg x fun ts' v => on1 ts' fun t => vName t (fun y => varOk sc nf i y && (sc.names.lookup y == some .local && (t.pos.line == v.pos.line && vComp v fun _ _ sc' => !sc'.names.any fun p => p.1 == y && (p.2 == .local || p.2 == .cell)))) && decE nf (.comp e ts pk rg it c) sc v
noncomputable def decB (nf : Nat → Option Str) (sc : Scope) : List S → List PySem.Stmt → Bool
  | [] => fun xs => xs.isEmpty
  | a :: l => fun xs => bif Nat.beq a.ctorIdx 18 then decB nf sc l xs else xs.casesOn false fun x r => decS nf sc a x && decB nf sc l r
end
noncomputable def nfOf (names : List String) (i : Nat) : Option Str := (names.map Str.ofString)[i]?
noncomputable def cellsOnce (l : List (Str × NameKind)) : Bool := (l.map (·.1)).all (fun x => decide (((l.map (·.1)).filter (· == x)).length = 1))
noncomputable def frameOk (np : Nat) (names : List String) (sc : Scope) : Bool :=
  (sc.kind == .function && (!sc.isCoroutine && !sc.isGenerator)) && ((sc.names.all (fun y => y.2 != .free) && cellsOnce sc.names) && ((nodupTx (names.map Str.ofString) && decide (np ≤ names.length)) &&
  (names.take np).all (fun x => sc.names.lookup (Str.ofString x) == some .local || sc.names.lookup (Str.ofString x) == some .cell)))
noncomputable def decFn (fn : Fn) (sc : Scope) (body : List PySem.Stmt) : Bool := (frameOk fn.np fn.names sc && decide (fn.np + fn.nl = fn.names.length)) && decB (nfOf fn.names) sc fn.body body
end
section
structure FnOK (c : Cx) (f : Addr) (fn : Fn) : Prop where
  h : ∃ o fd body, c.hb.get? f = some o ∧ o.cls = .type "function" ∧ o.data = .func fd ∧ fd.body = .stmts body ∧ fd.closure = [] ∧ fd.globals = mainGlobals ∧ fd.builtins = builtinsNs ∧ c.hb.CodeRec fd.code fd.qualname ∧
    (∀ vals : List Value, vals.length = fn.np → bindArgs fd ⟨vals, []⟩ = pure (((fn.names.take fn.np).map Str.ofString).zip vals)) ∧ decFn fn fd.scope body = true
structure ClsOK (c : Cx) (k : N) : Prop where
  at_ : ClsAt c.hb (c.cad k) (c.cN k) (c.cM k)
  ga : c.cM k "__getattribute__" = none
  gt : c.cM k "__getattr__" = none
  sa : c.cM k "__setattr__" = none
  no : ∀ n, keysIn n (attrsOf k) = true → c.cM k n.str = none
  few : (attrsOf k).length ≤ 100
  meth : ∀ m fn, look2 k m fnT = some fn → keysIn m (attrsOf k) = false ∧ ∃ f, c.cM k m.str = some (.ref f) ∧ FnOK c f fn
structure Ok (c : Cx) : Prop where
  lim : c.hb.NoLimit
  g : c.hb.Ns mainGlobals c.mG
  fn : ∀ f fn, look2 .x_law f fnT = some fn → ∃ a, c.mG f.str = some (.ref a) ∧ FnOK c a fn
  kl : ∀ k, attrsOf k ≠ [] → c.mG k.str = some (.ref (c.cad k))
  con : ∀ n d, look n gconT = some d → ∃ w, c.mG n.str = some w ∧ Rep noF c.hb d w
  top : ∀ n, topKeys n ≠ [] → ∃ a f, c.mG n.str = some (.ref a) ∧ (a == sysModules) = false ∧ c.hb.MapOf (mixKind c.prog c.w) a f ∧ ∀ k, (f (.s k)).isSome = keysIn k (topKeys n)
  gb : ∀ b : Bi, c.mG (Str.ofString b.text) = none
  gr : c.mG (Str.ofString "range") = none
  gy : c.mG (Str.ofString "bytearray") = none
  b : c.hb.Ns builtinsNs c.mB
  bb : ∀ b : Bi, c.mB (Str.ofString b.text) = some b.val
  br : c.mB (Str.ofString "range") = some (.type "range")
  by' : c.mB (Str.ofString "bytearray") = some (.type "bytearray")
  cls : ∀ k, attrsOf k ≠ [] → ClsOK c k
structure BudC (n : Nat) (A : Around) : Prop where
  hd : A.handled = none
  dp : A.depth + 2 * n + 1 < recursionLimit
  un : A.units + 10 * n + 13 < cLine
def CallS (c : Cx) (n : Nat) : Prop := ∀ (C f : N) (fn : Fn) (a : Addr), look2 C f fnT = some fn → FnOK c a fn →
  ∀ (A : Around) (Z : Addr → Prop) (σ : Sg) (vs : List V) (ws : List Value) (P : PV) (Q : Value → Shared → Prop), BudC n A → Inv c Z σ → Rvs Z σ vs ws → callF n C f vs σ.S P →
    (∀ w v σ', Ext noF σ σ' → Inv c Z σ' → Rv Z σ' v w → P v σ'.S → Q w σ'.s) → wpG (model c.prog c.w) A (call (.ref a) ws) Q σ.s
structure Kx where
  c : Cx
  n : Nat
  A : Around
  env : Env
  nf : Nat → Option Str
  Z : Addr → Prop
  r : Slots
structure Bud (n : Nat) (A : Around) : Prop where
  hd : A.handled = none
  dp : A.depth + 2 * n + 2 < recursionLimit
  un : A.units + 10 * n + 20 < cLine
structure EnvOK (Z : Addr → Prop) (env : Env) : Prop where
  kind : env.scope.kind = .function
  glob : env.globals = mainGlobals
  bi : env.builtins = builtinsNs
  zl : Z env.locals
  zc : ∀ x a, env.cells.lookup x = some a → Z a
  cf : ∀ x, env.scope.names.lookup x = some .cell → ∃ a, env.cells.lookup x = some a
def At (h : Heap) (env : Env) (x : Str) (w : Value) : Prop :=
  (env.kindOf x = some .local ∧ ∃ m, h.Ns env.locals m ∧ m x = some w) ∨
  ((env.kindOf x = some .cell ∨ env.kindOf x = some .free) ∧ ∃ a, env.cells.lookup x = some a ∧ h.IsCell a (some w))
def Locs (κ : Kx) (σ : Sg) : Prop := ∀ i v x, slotOf κ.r i = some v → κ.nf i = some x → isVar (κ.env.scope.names.lookup x) = true → ∃ w, At σ.s.heap κ.env x w ∧ Rv κ.Z σ v w
def FA (env : Env) (a : Addr) : Prop := a = env.locals ∨ ∃ x, env.cells.lookup x = some a
structure FrameOK (h : Heap) (env : Env) : Prop where
  ns : ∃ m, h.Ns env.locals m
  cl : ∀ x a, env.cells.lookup x = some a → a ≠ env.locals ∧ ∃ v, h.IsCell a v
  ap : ∀ x y a, env.cells.lookup x = some a → env.cells.lookup y = some a → x = y
theorem FrameOK.same {h h' : Heap} {env : Env} (K : FrameOK h env) (k : ∀ a o, FA env a → h.get? a = some o → h'.get? a = some o) : FrameOK h' env := by
  refine ⟨?_, fun x a e => ?_, K.ap⟩
  · obtain ⟨m, o, es, ep, ho, q⟩ := K.ns
    exact ⟨m, o, es, ep, k _ _ (.inl rfl) ho, q⟩
  · obtain ⟨n, v, o, ho, q⟩ := K.cl x a e
    exact ⟨n, v, o, k _ _ (.inr ⟨x, e⟩) ho, q⟩
structure G (κ : Kx) (σ : Sg) : Prop where
  ok : Ok κ.c
  call : CallS κ.c κ.n
  bud : Bud κ.n κ.A
  ev : EnvOK κ.Z κ.env
  inv : Inv κ.c κ.Z σ
  locs : Locs κ σ
  frm : FrameOK σ.s.heap κ.env
  inj : ∀ i j x, κ.nf i = some x → κ.nf j = some x → i = j
def W (κ : Kx) {α : Type} (t : Sem α) (Q : α → Shared → Prop) (s : Shared) : Prop := wpG (model κ.c.prog κ.c.w) κ.A t Q s
def Wa (κ : Kx) {α : Type} (t : Sem α) (Q : α → Shared → Prop) (s : Shared) : Prop := wpAny (model κ.c.prog κ.c.w) κ.A t Q noE s
def Kv (κ : Kx) (σ : Sg) (P : PV) (Q : Value → Shared → Prop) : Prop := ∀ w v σ', Ext noF σ σ' → G κ σ' → Rv κ.Z σ' v w → P v σ'.S → Q w σ'.s
def Kb (κ : Kx) (σ : Sg) (P : Bool → Store → Prop) (Q : Bool → Shared → Prop) : Prop := ∀ b σ', Ext noF σ σ' → G κ σ' → P b σ'.S → Q b σ'.s
def Kl (κ : Kx) (σ : Sg) (k : Nat) (P : PL) (Q : List Value → Shared → Prop) : Prop := ∀ ws vs σ', Ext noF σ σ' → G κ σ' → Rvs κ.Z σ' vs ws → ws.length = k → P vs σ'.S → Q ws σ'.s
def SE (κ : Kx) (e : E) (x : PySem.Expr) : Prop := ∀ σ P Q, G κ σ → wE (callF κ.n) e κ.r σ.S P → Kv κ σ P Q → W κ (eval x κ.env) Q σ.s
def ST (κ : Kx) (e : E) (x : PySem.Expr) : Prop := ∀ σ P Q, G κ σ → wE (callF κ.n) e κ.r σ.S (kTest P) → Kb κ σ P Q → W κ (isTrue x κ.env (eval x κ.env)) Q σ.s
def SL (κ : Kx) (l : List E) (xs : List PySem.Expr) : Prop := ∀ pos σ P Q, G κ σ → wL (callF κ.n) l κ.r σ.S P → Kl κ σ xs.length P Q → W κ (spliced (backTo pos (starEach xs κ.env))) Q σ.s
section
variable {κ : Kx} {σ σ' : Sg} {P : PV} {PB : Bool → Store → Prop} {Q : Value → Shared → Prop} {QB : Bool → Shared → Prop} {w : Value} {v : V} {h' : Heap} {Z : Addr → Prop} {C : Value → Prop}
theorem At.ext {env : Env} (E : EnvOK Z env) {c : Cx} (I : Inv c Z σ) (e : Ext noF σ σ') {x : Str} (a : At σ.s.heap env x w) : At σ'.s.heap env x w := by
  have nz : ∀ a, Z a → ¬ (Ms σ.ft a ∨ noF a) := fun a z m => m.elim (I.zm a z) id
  rcases a with ⟨k, m, ⟨o, es, ep, ho, q⟩, hm⟩ | ⟨k, a, ha, o, ho, hd⟩
  · exact .inl ⟨k, m, ⟨o, es, ep, e.kp _ _ ho (nz _ E.zl), q⟩, hm⟩
  · exact .inr ⟨k, a, ha, o, e.kp _ _ ho (nz _ (E.zc _ _ ha)), hd⟩
theorem EnvOK.fa {env : Env} (E : EnvOK Z env) {a : Addr} (f : FA env a) : Z a := f.elim (fun q => q ▸ E.zl) fun ⟨x, h⟩ => E.zc x a h
theorem G.ext (g : G κ σ) (x : Ext noF σ σ') (I : Inv κ.c κ.Z σ') : G κ σ' :=
  ⟨g.ok, g.call, g.bud, g.ev, I, fun i v y h1 h2 h3 => (g.locs i v y h1 h2 h3).imp fun _ a => ⟨a.1.ext g.ev g.inv x, x.rv a.2⟩, g.frm.same fun a o f e => x.kp a o e fun m => m.elim (g.inv.zm a (g.ev.fa f)) id, g.inj⟩
theorem Kv.pre (x : Ext noF σ σ') (k : Kv κ σ P Q) : Kv κ σ' P Q := fun w v σ'' y => k w v σ'' (x.trans y)
theorem Kb.pre {Q : Bool → Shared → Prop} (x : Ext noF σ σ') (k : Kb κ σ PB Q) : Kb κ σ' PB Q := fun w σ'' y => k w σ'' (x.trans y)
theorem Kv.grow (k : Kv κ σ P Q) (g : G κ σ) (kk : ∀ b o, σ.s.heap.get? b = some o → h'.get? b = some o) (t : Nat) (R : Rv κ.Z (σ.to h' t) v w) (p : P v σ.S) : Q w { σ.s with heap := h', toks := t } :=
  let x := grow_ok (F := noF) g.inv kk t
  k w v (σ.to h' t) x.1 (g.ext x.1 x.2) R p
theorem Kv.tok (k : Kv κ σ P Q) (g : G κ σ) (t : Nat) (R : Rv κ.Z σ v w) (p : P v σ.S) : Q w { σ.s with toks := t } := k.grow g (fun _ _ e => e) t R p
theorem Kv.here (k : Kv κ σ P Q) (g : G κ σ) (R : Rv κ.Z σ v w) (p : P v σ.S) : Q w σ.s := k w v σ (Ext.refl ..) g R p
theorem Kv.int (k : Kv κ σ P Q) (g : G κ σ) {i : Int} {t' t : Nat} (p : P (.d (.int i)) σ.S) : Q (.int i t') { σ.s with toks := t } := k.tok (v := .d (.int i)) g t ⟨_, rfl⟩ p
theorem Kv.bool (k : Kv κ σ P Q) (g : G κ σ) {b : Bool} {t : Nat} (p : P (.d (.bool b)) σ.S) : Q (.bool b) { σ.s with toks := t } := k.tok (v := .d (.bool b)) g t (Eq.refl (Value.bool b)) p
theorem asD_el {P : D → Prop} (e : asD v P) (R : Rv Z σ v w) (k : ∀ d, v = .d d → Rd Z σ d w → P d → C w) : C w := by
  cases v with
  | loc => exact e.elim
  | d x => exact k x rfl R e
theorem asA_el {P : Nat → Prop} (e : asA v P) (R : Rv Z σ v w) (k : ∀ i p, σ.ft[i]? = some p → P i → C (.ref p.1)) : C w := by
  cases v with
  | d => exact e.elim
  | loc i => obtain ⟨p, hp, rfl⟩ := R; exact k i p hp e
theorem asI_el {P : Int → Prop} (e : asI v P) (R : Rv Z σ v w) (k : ∀ i t, P i → C (.int i t)) : C w :=
  asD_el e R fun d _ R e => by
    cases d with
    | int i => obtain ⟨t, rfl⟩ := R; exact k i t e
    | _ => exact e.elim
theorem asB_el {P : Bool → Prop} (e : asB v P) (R : Rv Z σ v w) (k : ∀ i, P i → C (.bool i)) : C w :=
  asD_el e R fun d _ R e => by
    cases d with
    | bool i => cases R; exact k i e
    | _ => exact e.elim
theorem asS_el {P : N → Prop} (e : asS v P) (R : Rv Z σ v w) (k : ∀ n t, P n → C (.str n.str t)) : C w :=
  asD_el e R fun d _ R e => by
    cases d with
    | str i => obtain ⟨t, rfl⟩ := R; exact k i t e
    | _ => exact e.elim
theorem asY_el {P : List UInt8 → Prop} (e : asY v P) (R : Rv Z σ v w) (k : ∀ l t, P l → C (.bytes (Array.mk l) t)) : C w :=
  asD_el e R fun d _ R e => by
    cases d with
    | bytes i => obtain ⟨t, rfl⟩ := R; exact k i t e
    | _ => exact e.elim
theorem asL_el {P : List D → Prop} (e : asL v P) (R : Rv Z σ v w) (k : ∀ l a vs, P l → σ.s.heap.PlainList a (Array.mk vs) → ¬ Xs σ.ft Z a → All2 (Rd Z σ) l vs → C (.ref a)) : C w :=
  asD_el e R fun d _ R e => by
    cases d with
    | lst l => obtain ⟨a, vs, rfl, p, n, r⟩ := R; exact k l a vs e p n r.all
    | _ => exact e.elim
theorem asT_el {P : List D → Prop} (e : asT v P) (R : Rv Z σ v w) (k : ∀ l a vs, P l → PTup σ.s.heap a (Array.mk vs) → ¬ Xs σ.ft Z a → All2 (Rd Z σ) l vs → C (.ref a)) : C w :=
  asD_el e R fun d _ R e => by
    cases d with
    | tup l => obtain ⟨a, vs, rfl, p, n, r⟩ := R; exact k l a vs e p n r.all
    | _ => exact e.elim
theorem asN_el {P : Prop} (e : asN v P) (R : Rv Z σ v w) (k : P → C .none) : C w :=
  asD_el e R fun d _ R e => by
    cases d with
    | none => cases R; exact k e
    | _ => exact e.elim
theorem onS_el {α : Type} {o : Option α} {P : α → Prop} (e : onS o P) : ∃ a, o = some a ∧ P a := by
  cases o with
  | none => exact e.elim
  | some a => exact ⟨a, rfl, e⟩
theorem br_el {t : Bool} {A B : Prop} (e : Br t A B) : if t = true then A else B := by cases t <;> exact e
end
end
section
theorem look_mem {α : Type} {n : N} {b : α} {l : List (N × α)} (h : look n l = some b) : (n, b) ∈ l := by
  induction l with
  | nil => cases h
  | cons p l ih =>
    unfold look at h
    cases e : Nat.beq p.1 n with
    | true => rw [e] at h; cases h; rw [← Nat.eq_of_beq_eq_true e]; exact .head _
    | false => rw [e] at h; exact .tail _ (ih h)
theorem look2_mem {α : Type} {c n : N} {b : α} {l : List (N × List (N × α))} (h : look2 c n l = some b) : ∃ m, (c, m) ∈ l ∧ (n, b) ∈ m := by
  obtain ⟨m, h1, h2⟩ := Option.bind_eq_some_iff.mp h
  exact ⟨m, look_mem h1, look_mem h2⟩
theorem cat_ok {a b n : N} (h : look2 a b catT = some n) : a.str ++ b.str = n.str ∧ a.str.length + b.str.length ≤ sizeLine := by
  obtain ⟨m, h1, h2⟩ := look2_mem h
  have : (catT.all fun p => p.2.all fun q => decide (p.1.str ++ q.1.str = q.2.str ∧ p.1.str.length + q.1.str.length ≤ sizeLine)) = true := by decide +kernel
  exact of_decide_eq_true (List.all_eq_true.mp (List.all_eq_true.mp this _ h1) _ h2)
theorem no_pylong {a b : Int} (h0 : 0 < b) (h : b < 4294967296) : Builtin.divisionGoesByPylong a b = false := by
  have hb : b.natAbs < 2 ^ 32 := by omega
  have hl : b.natAbs.log2 < 32 := (Nat.log2_lt (by omega)).mpr hb
  have : (if (b == 0) = true then 0 else b.natAbs.log2 / 30 + 1) ≤ 2 := by split <;> omega
  unfold Builtin.divisionGoesByPylong
  rw [Bool.and_eq_false_iff]
  exact .inl (decide_eq_false (by dsimp only; omega))
theorem bitOr_zero {b : Int} (h : 0 ≤ b) : Builtin.bitOr 0 b = b := by
  have e2 : Builtin.bitNot b < 0 := by unfold Builtin.bitNot; omega
  have e4 : Builtin.bitNot (Builtin.bitNot b) = b := by unfold Builtin.bitNot; omega
  have e5 : Builtin.bitAnd (-1) (Builtin.bitNot b) = Builtin.bitNot b := by
    unfold Builtin.bitAnd
    rw [decide_eq_false (by decide), decide_eq_false (Int.not_le.mpr e2)]
    show Builtin.bitNot ((((Builtin.bitNot (-1)).toNat ||| (Builtin.bitNot (Builtin.bitNot b)).toNat : Nat)) : Int) = _
    rw [show (Builtin.bitNot (-1)).toNat = 0 from rfl, e4, Nat.zero_or, Int.toNat_of_nonneg h]
  unfold Builtin.bitOr
  rw [show Builtin.bitNot 0 = -1 from rfl, e5, e4]
section
variable {κ : Kx} {σ : Sg} {P : PV} {Q : Value → Shared → Prop} {w1 w2 w : Value} {x y v : V} {l : List D} {vs : List Value}
theorem push_kk {h : Heap} (o : Obj) (b : Addr) (o' : Obj) (e : h.get? b = some o') : (h.push o).get? b = some o' := Heap.get?_push_of_some _ e
theorem Inv.nx {c : Cx} {Z : Addr → Prop} (I : Inv c Z σ) : ¬ Xs σ.ft Z σ.s.heap.objs.size := I.fresh (Heap.get?_none_of_le (Nat.le_refl _))
theorem Rd.push {Z : Addr → Prop} {o : Obj} (R : All2 (Rd Z σ) l vs) : Reps (Xs σ.ft Z) (σ.s.heap.push o) l vs :=
  .of (R.imp fun d _ r => Rep.move (fun b o e _ => push_kk _ b o e) (fun _ _ _ m => m) d r)
theorem new_list (k : Kv κ σ P Q) (g : G κ σ) (R : All2 (Rd κ.Z σ) l vs) (p : P (.d (.lst l)) σ.S) : Q (.ref σ.s.heap.objs.size) { σ.s with heap := σ.s.heap.push { cls := .type "list", data := .seq (Array.mk vs) } } :=
  k.grow (v := .d (.lst l)) g (push_kk _) σ.s.toks ⟨_, vs, rfl, ⟨0, Heap.get?_push_size _ rfl⟩, g.inv.nx, Rd.push R⟩ p
theorem new_tup (k : Kv κ σ P Q) (g : G κ σ) (R : All2 (Rd κ.Z σ) l vs) (p : P (.d (.tup l)) σ.S) : Q (.ref σ.s.heap.objs.size) { σ.s with heap := σ.s.heap.push { cls := .type "tuple", data := .seq (Array.mk vs) } } :=
  k.grow (v := .d (.tup l)) g (push_kk _) σ.s.toks ⟨_, vs, rfl, ⟨_, Heap.get?_push_size _ rfl⟩, g.inv.nx, Rd.push R⟩ p
theorem op_add (g : G κ σ) (R1 : Rv κ.Z σ x w1) (R2 : Rv κ.Z σ y w2) (e : addP x y (kd P σ.S)) (k : Kv κ σ P Q) : W κ (binaryOp .Add w1 w2) Q σ.s := by
  apply asD_el e R1; intro d _ R e
  cases d with
  | int a => obtain ⟨t, rfl⟩ := R; apply asI_el e R2; intro b u e; exact wpG_of (add_int (k.int g e))
  | str a =>
    obtain ⟨t, rfl⟩ := R
    apply asS_el e R2; intro b u e
    obtain ⟨n, hn, e⟩ := onS_el e
    exact wpG_of (add_str (fun t' tk => k.tok (v := .d (.str n)) g tk ⟨t', congrArg (Value.str · t') (cat_ok hn).1⟩ e) (cat_ok hn).2)
  | bytes a =>
    obtain ⟨t, rfl⟩ := R
    apply asY_el e R2; intro b u e
    exact wpG_of (KBy.add_bytes (Nat.le_trans e.1 (by decide)) fun t' j => (List.append_toArray a b).symm ▸ k.tok (v := .d (.bytes (a ++ b))) g j ⟨_, rfl⟩ e.2)
  | lst a =>
    obtain ⟨ad, vs, rfl, p1, n1, r1⟩ := R
    have r1 := r1.all
    apply asL_el e R2; intro b ad2 us e p2 n2 r2
    obtain ⟨j1, p1⟩ := p1
    obtain ⟨j2, p2⟩ := p2
    refine wpG_of (PySem.P.add_list p1 p2 ?_ ?_)
    · exact (List.append_toArray vs us).symm ▸ new_list k g (r2.append r1) e.2
    · show vs.length + us.length ≤ _
      rw [r1.length, r2.length]; exact Nat.le_trans e.1 (by decide)
  | _ => exact e.elim
theorem op_bin {o : Op} (g : G κ σ) (R1 : Rv κ.Z σ x w1) (R2 : Rv κ.Z σ y w2) (e : binP o x y (kd P σ.S)) (k : Kv κ σ P Q) : W κ (binaryOp o.py w1 w2) Q σ.s := by
  have two : ∀ {C : Int → Int → Prop} {o : Op}, (asI x fun a => asI y fun b => C a b) → (∀ a b t u, C a b → Wa κ (binaryOp o.py (.int a t) (.int b u)) Q σ.s) → W κ (binaryOp o.py w1 w2) Q σ.s := fun e f => by
    apply asI_el e R1; intro a t e
    apply asI_el e R2; intro b u e
    exact wpG_of (f a b t u e)
  cases o with
  | add => exact op_add g R1 R2 e k
  | sub => exact two (o := .sub) e fun a b t u e => sub_int (k.int g e)
  | mul => exact two (o := .mul) e fun a b t u e => mul_int (k.int g e.2) (IntMulOk.of_left (intBits_le_64 (by omega) (by omega)))
  | fdiv => exact two (o := .fdiv) e fun a b t u e => floordiv_int (Int.ne_of_gt e.1.1) (Int.fdiv_eq_ediv_of_nonneg a (Int.le_of_lt e.1.1) ▸ k.int g e.2) (.inl (no_pylong e.1.1 e.1.2))
  | mod => exact two (o := .mod) e fun a b t u e => mod_int (Int.ne_of_gt e.1) (Int.fmod_eq_emod_of_nonneg a (Int.le_of_lt e.1) ▸ k.int g e.2)
  | shl => exact two (o := .shl) e fun a b t u e => lshift_int_small (by omega) (by omega) (by omega) (k.int g e.2)
  | shr =>
    refine two (o := .shr) e fun a b t u e => rshift_int_or g.bud.hd (fun q => absurd q (by omega)) fun _ => ?_
    obtain ⟨⟨q1, q2, rfl⟩, p⟩ := e
    rw [show Int.fdiv a (2 ^ (8 : Int).toNat) = 0 from (Int.fdiv_eq_ediv_of_nonneg a (by decide)).trans (Int.ediv_eq_zero_of_lt q1 q2)]
    exact k.int g p
  | bor =>
    refine two (o := .bor) e fun a b t u e => or_int ?_
    obtain ⟨⟨rfl, q⟩, p⟩ := e
    rw [bitOr_zero q]; exact k.int g p
end
end
section
theorem beqd {α : Type} [BEq α] [LawfulBEq α] [DecidableEq α] (a b : α) : (a == b) = decide (a = b) := by
  by_cases e : a = b
  · rw [decide_eq_true e, e, beq_self_eq_true]
  · rw [decide_eq_false e]; exact beq_eq_false_iff_ne.mpr e
section
variable {κ : Kx} {σ : Sg} {P : Bool → Prop} {Q : Value → Shared → Prop} {w1 w2 w : Value} {x y v : V} {Z : Addr → Prop} {A : Around}
theorem eq_lists {a b : List D} {b1 b2 : Addr} {vs us : List Value} (hu : A.units < cLine) (p1 : σ.s.heap.PlainList b1 (Array.mk vs)) (r1 : All2 (Rd Z σ) a vs) (p2 : σ.s.heap.PlainList b2 (Array.mk us)) (r2 : All2 (Rd Z σ) b us)
    (e : a.casesOn (b.casesOn (P true) fun _ _ => P false) fun _ _ => b.casesOn (P false) fun _ _ => False) : ∃ t, P t ∧ SeqAt.RcAt A σ.s (.ref b1) (.ref b2) t ∧ SeqAt.RcNeAt A σ.s (.ref b1) (.ref b2) (!t) := by
  have no : vs.length ≠ us.length → SeqAt.RcAt A σ.s (.ref b1) (.ref b2) false ∧ SeqAt.RcNeAt A σ.s (.ref b1) (.ref b2) true := fun n =>
    ⟨SeqAt.RcAt.lists_lengths p1.isList p2.isList (bne_iff_ne.mpr n) hu, SeqAt.RcNeAt.lists_lengths p1.isList p2.isList (bne_iff_ne.mpr n) hu⟩
  cases a with
  | nil => cases b with
    | nil =>
      cases r1; cases r2
      exact ⟨true, e, SeqAt.RcAt.lists (e := fun _ => true) p1.isList p2.isList rfl hu (fun j h1 _ => absurd h1 (Nat.not_lt_zero j)), SeqAt.RcNeAt.lists (e := fun _ => true) p1.isList p2.isList rfl hu (fun j h1 _ => absurd h1 (Nat.not_lt_zero j))⟩
    | cons d b => exact ⟨false, e, no (by rw [r1.length, r2.length]; exact Nat.ne_of_lt (Nat.succ_pos _))⟩
  | cons c a => cases b with
    | nil => exact ⟨false, e, no (by rw [r1.length, r2.length]; exact Nat.ne_of_gt (Nat.succ_pos _))⟩
    | cons d b => exact e.elim
theorem op_eq (hu : κ.A.units < cLine) (R1 : Rv κ.Z σ x w1) (R2 : Rv κ.Z σ y w2) (e : eqP x y P) : (∀ {Q : Value → Shared → Prop}, (∀ b, P b → Q (.bool b) σ.s) → Wa κ (compareOp .Eq w1 w2) Q σ.s) ∧ (∀ {Q : Value → Shared → Prop}, (∀ b, P b → Q (.bool (!b)) σ.s) → Wa κ (compareOp .NotEq w1 w2) Q σ.s) := by
  apply asD_el e R1; intro d _ R e
  cases d with
  | none =>
    cases R
    apply asD_el e R2; intro d _ R e
    cases d with
    | none => cases R; exact ⟨fun k => EqNone.eq_none_none (k _ e), fun k => EqNone.ne_none_none (k _ e)⟩
    | int i => obtain ⟨t, rfl⟩ := R; exact ⟨fun k => EqNone.eq_none_int (k _ e), fun k => EqNone.ne_none_int (k _ e)⟩
    | _ => exact e.elim
  | int a =>
    obtain ⟨t, rfl⟩ := R
    apply asD_el e R2; intro d _ R e
    cases d with
    | none => cases R; exact ⟨fun k => EqNone.eq_int_none (k _ e), fun k => EqNone.ne_int_none (k _ e)⟩
    | int i => obtain ⟨t, rfl⟩ := R; exact ⟨fun k => eq_int (k _ e), fun k => ne_int (k _ e)⟩
    | _ => exact e.elim
  | str a =>
    obtain ⟨t, rfl⟩ := R
    apply asS_el e R2; intro b u e
    rw [← N.str_beq] at e
    exact ⟨fun k => PyProof.Rows.eq_str (k _ e), fun k => PyProof.Rows.ne_str (k _ e)⟩
  | bytes a =>
    obtain ⟨t, rfl⟩ := R
    apply asY_el e R2; intro b u e
    rw [← beqd a b] at e
    exact ⟨fun k => PySem.W.eq_bytes (k _ e), fun k => PySem.W.ne_bytes (k _ e)⟩
  | lst a =>
    obtain ⟨ad, vs, rfl, p1, n1, r1⟩ := R
    apply asL_el e R2; intro b ad2 us e p2 n2 r2
    obtain ⟨t, e, h1, h2⟩ := eq_lists (A := κ.A) hu p1 r1.all p2 r2 e
    exact ⟨fun k => EqBoolInt.of_rc h1 (k _ e), fun k => EqBoolInt.of_rcne h2 (k _ e)⟩
  | _ => exact e.elim
theorem not_none (R : Rv Z σ v w) : (w == Value.none) = isN v := by
  cases v with
  | loc i => obtain ⟨p, _, rfl⟩ := R; rfl
  | d d => cases d with
    | none => cases R; rfl
    | bool b => cases R; rfl
    | tup l => obtain ⟨_, _, rfl, _⟩ := R; rfl
    | lst l => obtain ⟨_, _, rfl, _⟩ := R; rfl
    | _ => obtain ⟨_, rfl⟩ := R; rfl
theorem strIn_any {n : N} {l : List D} {vs : List Value} {b : Bool} (r : All2 (Rd Z σ) l vs) (e : strIn n l = some b) : ∃ ys, StrsAre vs ys ∧ ys.any (· == n.str) = b := by
  induction l generalizing vs b with
  | nil => cases r; cases e; exact ⟨[], .nil, rfl⟩
  | cons d l ih =>
    obtain ⟨w, ws, rfl, R, r⟩ := r
    cases d with
    | str m =>
      obtain ⟨b', e', rfl⟩ := Option.map_eq_some_iff.mp e
      obtain ⟨ys, q, rfl⟩ := ih r e'
      obtain ⟨t, rfl⟩ := R
      exact ⟨_, .cons _ _ q, by rw [List.any_cons, N.str_beq]⟩
    | _ => cases e
theorem intIn_any {n : Int} {l : List D} {vs : List Value} {b : Bool} (r : All2 (Rd Z σ) l vs) (e : intIn n l = some b) : ∃ ys, IntsAre vs ys ∧ ys.any (· == n) = b := by
  induction l generalizing vs b with
  | nil => cases r; cases e; exact ⟨[], .nil, rfl⟩
  | cons d l ih =>
    obtain ⟨w, ws, rfl, R, r⟩ := r
    cases d with
    | int m =>
      obtain ⟨b', e', rfl⟩ := Option.map_eq_some_iff.mp e
      obtain ⟨ys, q, rfl⟩ := ih r e'
      obtain ⟨t, rfl⟩ := R
      exact ⟨_, .cons _ _ q, rfl⟩
    | _ => cases e
theorem valueAt_cons (a k : Key) (w : Value) (ws : List (Key × Value)) : valueAt ((a, w) :: ws) k = if a = k then some w else valueAt ws k := by
  unfold valueAt
  by_cases e : a = k <;> simp [e]
theorem lookK_val {X : Addr → Prop} {ft : Ft} {h : Heap} (k : Key) {l : List (Key × V)} {kvs : List (Key × Value)} (r : RepKs X ft h l kvs) :
    (lookK k l = none ∧ valueAt kvs k = none) ∨ ∃ v w, lookK k l = some v ∧ valueAt kvs k = some w ∧ RepV X ft h v w := by
  induction l generalizing kvs with
  | nil => cases r; exact .inl ⟨rfl, rfl⟩
  | cons p l ih =>
    obtain ⟨⟨b, w⟩, ws, rfl, ⟨ek, R⟩, r⟩ := r
    obtain ⟨a, v⟩ := p
    obtain rfl : a = b := ek
    unfold lookK
    rw [valueAt_cons]
    by_cases e : a = k
    · rw [if_pos e, if_pos e]; exact .inr ⟨v, w, rfl, rfl, R⟩
    · rw [if_neg e, if_neg e]; exact ih r
theorem key_is (prog : Program) (w : World) (k : Key) (v : Value) (h : keyV k v) : (mixKind prog w).is k v = true := @decide_eq_true _ (Classical.propDecidable _) h
theorem asDic_el {c : Cx} {X : Addr → Prop} {ft : Ft} {h : Heap} {p : Addr × Addr} {z : Cell} {P : List (Key × V) → Prop} (C : CellAt c X ft h p z) (e : asDic z P) : ∃ l, DicAt c X ft h p l ∧ P l := by
  cases z with
  | dict l => exact ⟨l, C, e⟩
  | lock l => exact ⟨l, C, e⟩
  | _ => exact e.elim
theorem Inv.nsys {c : Cx} (I : Inv c Z σ) {i : Nat} {p : Addr × Addr} (pe : p.1 = p.2) (e : σ.ft[i]? = some p) : (p.2 == sysModules) = false :=
  beq_eq_false_iff_ne.mpr (I.nsy p (List.mem_of_getElem? e) pe)
theorem op_in (g : G κ σ) (R1 : Rv κ.Z σ x w1) (R2 : Rv κ.Z σ y w2) (e : inP x y σ.S P) : (∀ {Q : Value → Shared → Prop}, (∀ b t, P b → Q (.bool b) { σ.s with toks := t }) → Wa κ (compareOp .In w1 w2) Q σ.s) ∧ (∀ {Q : Value → Shared → Prop}, (∀ b t, P b → Q (.bool (!b)) { σ.s with toks := t }) → Wa κ (compareOp .NotIn w1 w2) Q σ.s) := by
  cases y with
  | d y =>
    apply asT_el e R2; intro l a vs e p _ r
    apply asD_el e R1; intro d _ R e
    cases d with
    | int i =>
      obtain ⟨t, rfl⟩ := R
      obtain ⟨b, e1, e⟩ := onS_el e
      obtain ⟨ys, q, rfl⟩ := intIn_any r e1
      exact ⟨fun k => in_tuple_ints p.isTup q (k _ σ.s.toks e), fun k => notin_tuple_ints p.isTup q (k _ σ.s.toks e)⟩
    | str n =>
      obtain ⟨t, rfl⟩ := R
      obtain ⟨b, e1, e⟩ := onS_el e
      obtain ⟨ys, q, rfl⟩ := strIn_any r e1
      exact ⟨fun k => in_tuple_strs p.isTup q (k _ σ.s.toks e), fun k => notin_tuple_strs p.isTup q (k _ σ.s.toks e)⟩
    | _ => exact e.elim
  | loc j =>
    obtain ⟨p, hp, rfl⟩ := R2
    apply asI_el e R1; intro i t e
    obtain ⟨z, hz, e⟩ := e.h
    obtain ⟨l, ⟨pe, kvs, D, r⟩, e⟩ := asDic_el (g.inv.at' hp hz) e
    have q := key_is κ.c.prog κ.c.w (.i i) (.int i t) ⟨t, rfl⟩
    have e : P (valueAt kvs (.i i)).isSome := by
      rcases lookK_val (.i i) r with ⟨a, b⟩ | ⟨v, w, a, b, _⟩
      · rw [b]; rwa [a] at e
      · rw [b]; rwa [a] at e
    rw [pe]
    exact ⟨fun k => wpAny_in_of q (g.inv.nsys pe hp) D.mapOf (k _ _ e), fun k => wpAny_notIn_of q (g.inv.nsys pe hp) D.mapOf (k _ _ e)⟩
theorem op_cmp {o : Cp} (g : G κ σ) (R1 : Rv κ.Z σ x w1) (R2 : Rv κ.Z σ y w2) (e : cmpP o x y σ.S P) (k : ∀ b t, P b → Q (.bool b) { σ.s with toks := t }) : W κ (compareOp o.py w1 w2) Q σ.s := by
  have hu : κ.A.units < cLine := Nat.lt_of_le_of_lt (by omega) g.bud.un
  have two : ∀ {C : Int → Int → Bool} {o : Cp}, (asI x fun a => asI y fun b => P (C a b)) → (∀ a b t u, Q (.bool (C a b)) σ.s → Wa κ (compareOp o.py (.int a t) (.int b u)) Q σ.s) → W κ (compareOp o.py w1 w2) Q σ.s := fun e f => by
    apply asI_el e R1; intro a t e
    apply asI_el e R2; intro b u e
    exact wpG_of (f a b t u (k _ σ.s.toks e))
  cases o with
  | eq => exact wpG_of ((op_eq hu R1 R2 e).1 fun b => k b σ.s.toks)
  | ne => exact wpG_of ((op_eq (P := fun b => P (!b)) hu R1 R2 e).2 fun b => k _ σ.s.toks)
  | lt => exact two (o := .lt) e fun _ _ _ _ => lt_int
  | le => exact two (o := .le) e fun _ _ _ _ => le_int
  | gt => exact two (o := .gt) e fun _ _ _ _ => gt_int
  | ge => exact two (o := .ge) e fun _ _ _ _ => ge_int
  | is => apply asN_el e R2; intro e; exact wpG_of (is_none (not_none R1 ▸ k _ σ.s.toks e))
  | isnot => apply asN_el e R2; intro e; exact wpG_of (isNot_none (not_none R1 ▸ k _ σ.s.toks e))
  | isin => exact wpG_of ((op_in g R1 R2 e).1 k)
  | notin => exact wpG_of ((op_in (P := fun b => P (!b)) g R1 R2 e).2 fun b => k _)
end
end
section
theorem seqIndex_pos {i : Int} {m : Nat} (h0 : 0 ≤ i) (h1 : i.toNat < m) : seqIndex? i m = some i.toNat := by
  unfold seqIndex?
  rw [if_neg (Int.not_lt.mpr h0)]
  exact if_pos (by simp only [Bool.and_eq_true, decide_eq_true_eq]; omega)
theorem not_slice {sl : PySem.Expr} (h : noSlice sl = true) (o v : Value) : subscripted sl false o v = operate [o, v] (getItem o v) := by
  cases sl with
  | Slice a b d p => cases h
  | _ => rfl
theorem star_cons {e : PySem.Expr} (h : noStar e = true) (l : List PySem.Expr) (env : Env) : starEach (e :: l) env = (false, eval e env) :: starEach l env := by
  cases e with
  | Starred a p => cases h
  | _ => rfl
theorem cut_eq {α : Type} (l : List α) (x y : Option Nat) :
    (l.drop ((x.map fun (n : Nat) => (n : Int)).elim 0 (clipAt l.length))).take ((y.map fun (n : Nat) => (n : Int)).elim l.length (clipAt l.length) - (x.map fun (n : Nat) => (n : Int)).elim 0 (clipAt l.length)) = cutL l x y := by
  have hd : ∀ a : Nat, l.drop (min a l.length) = l.drop a := fun a => by
    rcases Nat.le_total a l.length with h | h
    · rw [Nat.min_eq_left h]
    · rw [Nat.min_eq_right h, List.drop_of_length_le (Nat.le_refl _), List.drop_of_length_le h]
  have ht : ∀ (m : List α) (a b : Nat), m.length + a = l.length ∨ (m = [] ∧ l.length ≤ a) → m.take (min b l.length - min a l.length) = m.take (b - a) := fun m a b h => by
    rcases h with h | h
    · rcases Nat.le_total b l.length with q | q
      · rw [Nat.min_eq_left q, Nat.min_eq_left (by omega)]
      · rw [Nat.min_eq_right q, List.take_of_length_le (by omega), List.take_of_length_le (by omega)]
    · rw [h.1, List.take_nil, List.take_nil]
  cases x with
  | none =>
    cases y with
    | none => exact List.take_of_length_le (Nat.le_refl _)
    | some b =>
      simp only [Option.map_none, Option.elim_none, Option.map_some, Option.elim_some, clipAt_nat, List.drop_zero]
      exact ht l 0 b (.inl rfl)
  | some a =>
    have q : (l.drop a).length + a = l.length ∨ (l.drop a = [] ∧ l.length ≤ a) := by
      rcases Nat.le_total a l.length with h | h
      · exact .inl (by rw [List.length_drop]; omega)
      · exact .inr ⟨List.drop_of_length_le h, h⟩
    cases y with
    | none =>
      simp only [Option.map_some, Option.elim_some, Option.map_none, Option.elim_none, clipAt_nat]
      rw [hd]
      exact List.take_of_length_le (by rw [List.length_drop]; omega)
    | some b =>
      simp only [Option.map_some, Option.elim_some, clipAt_nat]
      rw [hd, ht _ a b q]
      exact (List.drop_take ..).symm
theorem All2.cut {α β : Type} {R : α → β → Prop} {l : List α} {ws : List β} (x y : Option Nat) (r : All2 R l ws) : All2 R (cutL l x y) (cutL ws x y) := by
  cases y with
  | none => cases x with
    | none => exact r
    | some a => exact r.drop _
  | some b => cases x with
    | none => exact r.take _
    | some a => exact (r.take _).drop _
noncomputable def Rx (Z : Addr → Prop) (σ : Sg) (vs : List V) (w : Value) : Prop := vs.casesOn (w = .none) fun v _ => Rv Z σ v w
def SX (κ : Kx) (l : List E) (x : Option PySem.Expr) : Prop := ∀ σ P Q, G κ σ → wL (callF κ.n) l κ.r σ.S P → (∀ w vs σ', Ext noF σ σ' → G κ σ' → Rx κ.Z σ' vs w → P vs σ'.S → Q w σ'.s) → W κ (evalPart x κ.env) Q σ.s
section
variable {κ : Kx} {σ σ' : Sg} {P : PV} {Q : Value → Shared → Prop} {w1 w2 w : Value} {x y v : V} {Z : Addr → Prop} {A : Around}
theorem Rx.ext (a : Ext noF σ σ') {vs : List V} (r : Rx Z σ vs w) : Rx Z σ' vs w := by
  cases vs with
  | nil => exact r
  | cons v l => exact a.rv r
theorem tail_list {value sl : PySem.Expr} {a : Addr} {vs : List Value} {i : Int} {t : Tok} (p : σ.s.heap.IsList a (Array.mk vs)) (q : 0 ≤ i ∧ i < 1000000) (hw : vs[i.toNat]? = some w)
    (hs : ∀ o v, subscripted sl false o v = operate [o, v] (getItem o v)) (k : Q w σ.s) : W κ (subscriptTail value sl (.ref a) (.int i t)) Q σ.s :=
  wpG_of (tail_any p.typeIs slot_list_getitem.lookup (wpAny_getItem_list p q.1 (Int.lt_trans q.2 (by decide)) (List.getElem?_toArray.trans hw) k) (hs _ _))
theorem op_idx {value sl : PySem.Expr} (g : G κ σ) (R1 : Rv κ.Z σ x w1) (R2 : Rv κ.Z σ y w2) (e : idxP x y σ.S (kv P σ.S)) (hs : ∀ o v, subscripted sl false o v = operate [o, v] (getItem o v)) (k : Kv κ σ P Q) : W κ (subscriptTail value sl w1 w2) Q σ.s := by
  have dic : ∀ {l : List (Key × V)} {p : Addr × Addr} {i : Nat}, DicAt κ.c (Xs σ.ft κ.Z) σ.ft σ.s.heap p l → (asK y fun q => onS (lookK q l) (kv P σ.S)) → W κ (subscriptTail value sl (.ref p.1) w2) Q σ.s := fun {l p i} D e => by
    obtain ⟨pe, kvs, D, r⟩ := D
    have main : ∀ q : Key, keyV q w2 → onS (lookK q l) (kv P σ.S) → W κ (subscriptTail value sl (.ref p.1) w2) Q σ.s := fun q hq e => by
      obtain ⟨v, hv, e⟩ := onS_el e
      rcases lookK_val q r with ⟨a, b⟩ | ⟨v', w', a, b, Rw⟩
      · rw [a] at hv; cases hv
      · cases a.symm.trans hv
        rw [pe]
        exact wpG_of (tail_any D.typeIs slot_dict_getitem.lookup (wpAny_getItem_of (key_is κ.c.prog κ.c.w q _ hq) D.mapOf b (k.tok g _ Rw e)) (hs _ _))
    apply asD_el e R2; intro d _ R e
    cases d with
    | int i => exact main (.i i) R e
    | str n => exact main (.s n) R e
    | _ => exact e.elim
  cases x with
  | d d =>
    cases d with
    | lst l =>
      obtain ⟨a, vs, rfl, p, _, r⟩ := R1
      apply asI_el e R2; intro i t e
      obtain ⟨d, hd, e2⟩ := onS_el e.2
      obtain ⟨w, hw, Rw⟩ := r.all.get hd
      exact tail_list p.isList e.1 hw hs (k.here (v := .d d) g Rw e2)
    | tup l =>
      obtain ⟨a, vs, rfl, p, _, r⟩ := R1
      apply asI_el e R2; intro i t e
      obtain ⟨d, hd, e2⟩ := onS_el e.2
      obtain ⟨w, hw, Rw⟩ := r.all.get hd
      exact wpG_of (tail_any p.isTup.typeIs slot_tuple_getitem.lookup (getItem_tuple p.isTup (by omega) (by omega) (seqIndex_pos e.1.1 (List.getElem?_eq_some_iff.mp hw).1) (List.getElem?_toArray.trans hw) (k.here (v := .d d) g Rw e2)) (hs _ _))
    | _ => exact e.elim
  | loc j =>
    obtain ⟨p, hp, rfl⟩ := R1
    obtain ⟨z, hz, e⟩ := e.h
    have C := g.inv.at' hp hz
    cases z with
    | lst l =>
      obtain ⟨pe, vs, D, r⟩ := C
      apply asI_el e R2; intro i t e
      obtain ⟨d, hd, e2⟩ := onS_el e.2
      obtain ⟨w, hw, Rw⟩ := r.get hd
      rw [pe]
      exact tail_list D e.1 hw hs (k.here g Rw e2)
    | dict l => exact dic (i := 0) C e
    | lock l => exact dic (i := 0) C e
    | _ => exact e.elim
theorem bnd_el {vs : List V} {P : Option Nat → Prop} (e : bndP vs P) (R : Rx Z σ vs w) : ∃ b, P b ∧ IsPart w (b.map fun (n : Nat) => (n : Int)) := by
  cases vs with
  | nil => cases R; exact ⟨none, e, .none⟩
  | cons v r => cases r with
    | nil =>
      apply asI_el (C := fun w => ∃ b, P b ∧ IsPart w (b.map fun (n : Nat) => (n : Int))) e R; intro i t e
      exact ⟨_, e.2, (Int.toNat_of_nonneg e.1).symm ▸ .int _ _⟩
    | cons u r => exact e.elim
theorem op_slice {value sl : PySem.Expr} {w3 : Value} {a b : List V} {f : Value → Value → List Value} (g : G κ σ) (R1 : Rv κ.Z σ x w1) (R2 : Rx κ.Z σ a w2) (R3 : Rx κ.Z σ b w3) (e : sliceP x a b (kd P σ.S)) (hs : ∀ o v, subscripted sl false o v = operate (f o v) (getItem o v)) (k : Kv κ σ P Q) :
    W κ (subscriptTail value sl w1 (.ref σ.s.heap.objs.size)) Q { σ.s with heap := σ.s.heap.push { cls := .type "slice", data := .fields #[w2, w3, .none] } } := by
  obtain ⟨b1, e, p1⟩ := bnd_el e R2
  obtain ⟨b2, e, p2⟩ := bnd_el e R3
  have x1 := grow_ok (F := noF) g.inv (push_kk (h := σ.s.heap) { cls := .type "slice", data := .fields #[w2, w3, .none] }) σ.s.toks
  have g1 := g.ext x1.1 x1.2
  have k1 := k.pre x1.1
  apply asD_el e R1; intro d _ R e
  cases d with
  | bytes l =>
    obtain ⟨t, rfl⟩ := R
    refine wpG_of (tail_any (typeIs_bytes _ _ _) FB.slot_bytes_getitem.lookup (getItem_meets (typeIs_bytes _ _ _) (by decide) FB.slot_bytes_getitem FB.entry_bytes_getitem (FB.args_bytes_getitem_2 _ _) (KBc.meets_slice2 _ _ _ p1 p2) ?_) (hs _ _))
    refine ⟨Heap.IsSliceOf.new _ _ _ _, Nat.le_trans (KBc.size_picked_le _ _ _) (Nat.le_trans e.1 (by decide)), fun t' tk => ?_⟩
    rw [KBc.picked_eq]
    simp only [List.size_toArray]
    rw [cut_eq]
    exact k1.tok (v := .d (.bytes (cutL l b1 b2))) g1 tk ⟨_, rfl⟩ e.2
  | lst l =>
    obtain ⟨ad, vs, rfl, p, _, r⟩ := R
    have p' : Heap.IsList _ ad (Array.mk vs) := p.isList.push { cls := .type "slice", data := .fields #[w2, w3, .none] }
    have r := r.all
    refine wpG_of (tail_any p'.typeIs slot_list_getitem.lookup (wpAny_getItem_list_slice p' (Heap.IsSliceOf.new ..) p1 p2 .none (by simp) ?_ (by show vs.length ≤ _; rw [r.length]; exact Nat.le_trans e.1 (by decide))) (hs _ _))
    rw [slicePick_plain]
    simp only [List.size_toArray]
    rw [cut_eq]
    exact new_list k1 g1 ((r.imp fun _ _ r => x1.1.rd r).cut b1 b2) e.2
  | _ => exact e.elim
end
end
section
section
variable {c : Cx} {s : Shared} {A : Around} {Q : Value → Shared → Prop} {Ex : Value → Shared → Prop}
theorem kas_go {κ : SortKind} {α : Type} (vs : List Value) (lt : Nat → Nat → Option Bool) {Q : α → Shared → Prop} (ask : ∀ i j b (C : Bool → Shared → Prop), lt i j = some b → C b s → kas_ask c.prog c.w A κ vs i j C s) :
    ∀ (t : KasT α) (a : α), goc lt t = some a → Q a s → t.kasWp (kas_ask c.prog c.w A κ vs) Q s
  | .ret a, b, e, h => by cases e; exact h
  | .ask i j k, a, e, h => by
    simp only [goc, Option.bind_eq_some_iff] at e
    obtain ⟨b, e1, e2⟩ := e
    exact ask i j b _ e1 (kas_go vs lt ask (k b) a e2 h)
noncomputable def TupK (h : Heap) : List (Int × D) → List Value → Prop := All2 fun k v => ∃ a o xs m t, v = .ref a ∧ h.get? a = some o ∧ o.cls = .type "tuple" ∧ o.data = .seq xs m ∧ xs[0]? = some (.int k.1 t)
theorem TupK.keep {h h' : Heap} (k : ∀ a o, h.get? a = some o → o.cls = .type "tuple" → h'.get? a = some o) {vs : List Value} {ks : List (Int × D)} (T : TupK h ks vs) : TupK h' ks vs :=
  T.imp fun _ _ r => by obtain ⟨a, o, xs, m, t, e1, e2, e3, e4⟩ := r; exact ⟨a, o, xs, m, t, e1, k _ _ e2 e3, e3, e4⟩
theorem TupK.tups {h : Heap} {vs : List Value} {ks : List (Int × D)} (T : TupK h ks vs) : ∃ fs, KatTups h vs fs ∧ fs.length = ks.length ∧ ∀ v ∈ fs, ∃ i t, v = .int i t := by
  induction ks generalizing vs with
  | nil => cases T; exact ⟨[], trivial, rfl, fun _ m => nomatch m⟩
  | cons k ks ih =>
    obtain ⟨w, r, rfl, ⟨a, o, xs, m, t, e1, e2, e3, e4, e5⟩, T⟩ := T
    obtain ⟨fs, f1, f2, f3⟩ := ih T
    exact ⟨.int k.1 t :: fs, ⟨⟨a, o, xs, m, e1, e2, e3, e4, e5⟩, f1⟩, congrArg (· + 1) f2, fun v hv => (List.mem_cons.mp hv).elim (fun e => ⟨_, _, e⟩) (f3 v)⟩
theorem getD_of {l : List Value} {i : Nat} {w : Value} (h : l[i]? = some w) : l.getD i .none = w := by rw [List.getD_eq_getElem?_getD, h]; rfl
theorem ask_ltP {vs : List Value} {ks : List (Int × D)} (T : TupK s.heap ks vs) (i j : Nat) (b : Bool) (C : Bool → Shared → Prop) (e : ltP ks i j = some b) (h : C b s) : kas_ask c.prog c.w A (tuples' true) vs i j C s := by
  obtain ⟨p, h1, e⟩ := Option.bind_eq_some_iff.mp e
  obtain ⟨q, h2, e⟩ := Option.bind_eq_some_iff.mp e
  by_cases ne : p.1 = q.1
  · rw [if_pos ne] at e; cases e
  · rw [if_neg ne] at e
    cases e
    obtain ⟨w1, g1, x, ox, xs, m, tx, rfl, e2, e3, e4, e5⟩ := T.get h1
    obtain ⟨w2, g2, y, oy, ys, k, ty, rfl, f2, f3, f4, f5⟩ := T.get h2
    have e1 := getD_of g1
    have f1 := getD_of g2
    unfold kas_ask
    rw [e1, f1]
    refine kat_lt e2 e4 f2 f4 ?_
    obtain ⟨xs⟩ := xs
    obtain ⟨ys⟩ := ys
    cases xs with
    | nil => simp at e5
    | cons p1 xs =>
      cases ys with
      | nil => simp at f5
      | cons q1 ys =>
        simp only [List.getElem?_toArray, List.getElem?_cons_zero, Option.some.injEq] at e5 f5
        subst e5 f5
        refine kat_cons (wpAny_eqBool_int ?_)
        rw [show (p.1 == q.1) = false from beq_eq_false_iff_ne.mpr ne]
        refine kat_no ?_
        have g := kat_lt_int (prog := c.prog) (w := c.w) (A := A) (E := fun _ _ => False) (s := s) (x := p.1) (y := q.1) (t := tx) (u := ty) (Q := C) h
        rw [keyLt'_oneType] at g
        exact g
theorem picks_eq {ks : List (Int × D)} {vs : List Value} {X : Addr → Prop} {hp : Heap} (R : All2 (Rep X hp) (ks.map (·.2)) vs) {p : List Nat} {out : List D} (e : picks ks p = some out) : All2 (Rep X hp) out (p.map fun i => vs.getD i .none) := by
  induction p generalizing out with
  | nil => cases e; exact rfl
  | cons i p ih =>
    obtain ⟨a, ha, e⟩ := Option.bind_eq_some_iff.mp e
    obtain ⟨l, e1, rfl⟩ := Option.map_eq_some_iff.mp e
    obtain ⟨w, hw, Rw⟩ := R.get (i := i) (x := a.2) (by rw [List.getElem?_map, ha]; rfl)
    exact ⟨_, _, rfl, (show Rep X hp a.2 (vs.getD i .none) from (getD_of hw).symm ▸ Rw), ih e1⟩
theorem keyed_tup {X : Addr → Prop} {h : Heap} {vs : List Value} {l : List D} {ks : List (Int × D)} (R : All2 (Rep X h) l vs) (e : keyed l = some ks) : TupK h ks vs ∧ l = ks.map (·.2) := by
  induction l generalizing vs ks with
  | nil => cases R; cases e; exact ⟨rfl, rfl⟩
  | cons d l ih =>
    obtain ⟨w, r, rfl, x, R⟩ := R
    obtain ⟨k, e1, e⟩ := Option.bind_eq_some_iff.mp e
    obtain ⟨ks, e2, rfl⟩ := Option.map_eq_some_iff.mp e
    obtain ⟨h1, rfl⟩ := ih R e2
    cases d with
    | tup q => cases q with
      | nil => cases e1
      | cons z q => cases z with
        | int i =>
          cases e1
          obtain ⟨a, us, rfl, p, _, r⟩ := x
          obtain ⟨o, ho, hc, m, hd⟩ := p.isTup
          obtain ⟨w, ws, rfl, ⟨t, rfl⟩, _⟩ := r
          exact ⟨⟨_, _, rfl, ⟨a, o, _, m, t, rfl, ho, hc, hd, rfl⟩, h1⟩, rfl⟩
        | _ => cases e1
    | _ => cases e1
theorem tup_list_sort {a : Addr} {vs : List Value} {ks : List (Int × D)} {out : List D} {m : Nat} {P : PySem.Fin → Shared → Prop} {X : Addr → Prop} {hp : Heap} (ho : s.heap.get? a = some (seqObj "list" vs.toArray m)) (t : TupK s.heap ks vs) (R : All2 (Rep X hp) (ks.map (·.2)) vs)
    (h64 : vs.length < 64) (e : sortP ks = some out)
    (h : ∀ ws, All2 (Rep X hp) out ws → ws.length = vs.length → P (.done (.ret .none)) { s with heap := sortedHeap s.heap a vs ws.toArray }) :
    wpAny (model c.prog c.w) A (Builtin.«list.sort» ⟨[.ref a], []⟩) P Ex s := by
  rw [list_sort_plain]
  have ha : a < s.heap.objs.size := Heap.lt_size ho
  refine wpAny_bind (listItems_at ho rfl ?_)
  refine wpAny_bind (listUpdate_at ho rfl ?_)
  obtain ⟨e1, ho1⟩ : ∃ e1, (s.heap.update a (Obj.mapSeq fun _ => #[])).get? a = some (seqObj "list" #[] e1) := ⟨_, get?_update_seq ho (fun _ => #[])⟩
  refine wpAny_bind (seqEpoch_at ho1 rfl ?_)
  refine wpAny_bind (wpAny_newTuple ?_)
  refine wpAny_bind (wpAny_newList ?_)
  refine wpAny_holding ?_
  have ho6 : (((s.heap.update a (Obj.mapSeq fun _ => #[])).push (seqObj "tuple" vs.toArray 0)).push (seqObj "list" #[] 0)).get? a = some (seqObj "list" #[] e1) := by
    rw [Heap.get?_push_ne _ _ _ (by rw [size_push', Heap.size_update]; exact Nat.ne_of_lt (Nat.lt_succ_of_lt ha)), Heap.get?_push_ne _ _ _ (by rw [Heap.size_update]; exact Nat.ne_of_lt ha)]
    exact ho1
  have t6 : TupK (((s.heap.update a (Obj.mapSeq fun _ => #[])).push (seqObj "tuple" vs.toArray 0)).push (seqObj "list" #[] 0)) ks vs := by
    refine t.keep fun b o eb cb => ?_
    have nb : b ≠ a := by
      rintro rfl
      rw [ho] at eb; cases eb
      simp at cb
    exact Heap.get?_push_of_some _ (Heap.get?_push_of_some _ ((Heap.get?_update_ne _ _ _ _ nb).trans eb))
  show wpAny (model c.prog c.w) A _ P Ex { s with heap := ((s.heap.update a (Obj.mapSeq fun _ => #[])).push (seqObj "tuple" vs.toArray 0)).push (seqObj "list" #[] 0) }
  dsimp only
  have hsz : vs.toArray.size = vs.length := by simp
  have hl := t.length
  by_cases h2 : vs.toArray.size < 2
  · rw [if_pos h2, if_pos h2]
    refine wpAny_bind (wpAny_pure ?_)
    rw [StateT.run_pure]
    refine wpAny_bind (wpAny_pure ?_)
    dsimp only
    refine wpAny_bind (seqEpoch_at ho6 rfl ?_)
    refine wpAny_bind (listUpdate_at ho6 rfl ?_ (hsz2 := by rw [Array.size_map]; show (PyProof.Rows.pairsOf vs).size ≤ _; rw [pairsOf_size, sizeLine_eq]; omega))
    simp only [bne_self_eq_false, Bool.false_eq_true, if_false]
    have hout : (arrOf (SortSt.mk' general' (vs.toArray.zip vs.toArray) #[] 7 none)).map (·.2) = vs.toArray := by
      show (vs.toArray.zip vs.toArray).map (·.2) = vs.toArray
      simp [List.map_snd_zip]
    unfold sortP at e
    rw [if_pos (by rw [← hl]; simpa using h2)] at e
    cases e
    have hh := h vs R rfl
    refine wpAny_pure ?_
    unfold sortedHeap at hh
    rw [hout]
    exact hh
  · rw [if_neg h2, if_neg h2]
    unfold sortP at e
    rw [if_neg (by rw [← hl]; simpa using h2)] at e
    obtain ⟨p, e2, e3⟩ := Option.bind_eq_some_iff.mp e
    obtain ⟨fs, f1, f2, f3⟩ := t6.tups
    have h2' : 2 ≤ vs.length := by rw [hsz] at h2; omega
    refine wpAny_bind (kat_kind (T := .type "int") f1 (by rw [f2, ← hl]; omega) (fun v hv => ?_) rfl ?_)
    · obtain ⟨i, t, rfl⟩ := f3 v hv
      exact Looks.of_pure rfl
    rw [show ((Value.type "int" != Value.type "tuple") = true) from rfl]
    refine wpAny_bind (wpAny_mono (kat_run (ks := vs) (vs := vs) (κ := tuples' true) (Q := fun st' s' => ∃ ws : List Value, (arrOf st').map (·.2) = ws.toArray ∧ failedOf st' = none ∧ All2 (Rep X hp) out ws ∧ ws.length = vs.length ∧
        s' = { s with heap := ((s.heap.update a (Obj.mapSeq fun _ => #[])).push (seqObj "tuple" vs.toArray 0)).push (seqObj "list" #[] 0) })
      (G := fun p' s' => p' = p ∧ s' = { s with heap := ((s.heap.update a (Obj.mapSeq fun _ => #[])).push (seqObj "tuple" vs.toArray 0)).push (seqObj "list" #[] 0) })
      rfl h2' h64 (fun p' st' s' hp' har hf g => ?_) ?_) ?_ fun _ _ x => x)
    · obtain ⟨rfl, rfl⟩ := g
      exact ⟨_, kat_snds rfl har, hf, picks_eq R e3, by rw [List.length_map, Array.length_toList]; exact hp', rfl⟩
    · exact kas_go (A := A) vs (ltP ks) (fun i j b C eb hc => ask_ltP t6 i j b C eb hc) _ p (by rw [hl]; exact e2) ⟨rfl, rfl⟩
    · rintro ⟨⟨⟩, st'⟩ s' ⟨ws, hw, hf, Rw, hlw, rfl⟩
      dsimp only
      dsimp only at hw
      refine wpAny_bind (seqEpoch_at ho6 rfl ?_)
      refine wpAny_bind (listUpdate_at ho6 rfl ?_ (hsz2 := by rw [hw, List.size_toArray, hlw, sizeLine_eq]; omega))
      rw [hf, hw]
      simp only [bne_self_eq_false, Bool.false_eq_true, if_false]
      exact wpAny_pure (h ws Rw hlw)
theorem tup_sorted {l : Addr} {vs : List Value} {ks : List (Int × D)} {out : List D} {X : Addr → Prop} {hp : Heap} (hl : s.heap.IsList l vs.toArray) (t : TupK s.heap ks vs) (R : All2 (Rep X hp) (ks.map (·.2)) vs) (h64 : vs.length < 64) (e : sortP ks = some out)
    (h : ∀ ws, All2 (Rep X hp) out ws → ws.length = vs.length → Q (.ref (s.heap.objs.size + 1)) { s with heap := sortedAll s.heap vs ws.toArray }) :
    wpAny (model c.prog c.w) A (call (.builtin "sorted") [.ref l]) Q Ex s := by
  refine Calls.call_function_entry kind_sorted plain_sorted entry_sorted (args_sorted1 _) ?_
  unfold Builtin.«sorted»
  refine wpAny_bind (m := checkCount "sorted" 1 1 _) (wpAny_pure ?_)
  refine wpAny_bind (collect_list hl ?_)
  refine wpAny_bind (wpAny_newList ?_)
  have hsz : ((s.heap.push (seqObj "list" #[] 0)).update s.heap.objs.size (Obj.mapSeq (· ++ vs.toArray))).objs.size = s.heap.objs.size + 1 := by
    rw [Heap.size_update, size_push']
  have hoL : (((s.heap.push (seqObj "list" #[] 0)).update s.heap.objs.size (Obj.mapSeq (· ++ vs.toArray))).push (seqObj "list" vs.toArray 0)).get? (s.heap.objs.size + 1) = some (seqObj "list" vs.toArray 0) := by
    rw [← hsz]; exact Heap.get?_push_size _ rfl
  have keep : ∀ b o, s.heap.get? b = some o → (((s.heap.push (seqObj "list" #[] 0)).update s.heap.objs.size (Obj.mapSeq (· ++ vs.toArray))).push (seqObj "list" vs.toArray 0)).get? b = some o := fun b o q => by
    have hlt : b < s.heap.objs.size := Heap.lt_size q
    rw [Heap.get?_push_ne _ _ _ (by rw [hsz]; exact Nat.ne_of_lt (Nat.lt_succ_of_lt hlt)), Heap.get?_update_ne _ _ _ _ (Nat.ne_of_lt hlt), Heap.get?_push_ne _ _ _ (Nat.ne_of_lt hlt)]
    exact q
  show wpAny _ _ _ _ _ { s with heap := ((s.heap.push (seqObj "list" #[] 0)).update s.heap.objs.size (Obj.mapSeq (· ++ vs.toArray))).push (seqObj "list" vs.toArray 0) }
  rw [hsz]
  refine wpAny_bind (wpAny_holding (wpAny_call_entry slot_list_sort ⟨_, hoL, rfl⟩ entry_list_sort (tup_list_sort hoL (t.keep fun a o q _ => keep a o q) R h64 e fun ws Rw hw => ⟨_, rfl, ?_⟩) (args_list_sort _)))
  exact wpAny_pure ⟨_, rfl, h ws Rw hw⟩
end
end
section
namespace F
theorem bb_slot : typeLookup (.type "bytes") "__bytes__" = pure (some (.builtin "bytes.__bytes__")) := by rw [typeLookup_type, builtinLookup_eq_fast]; kernel_rfl
end F
section
variable {c : Cx} {s : Shared} {A : Around} {Q : Value → Shared → Prop} {Ex : Value → Shared → Prop}
theorem bb_new {b : Array UInt8} {t : Tok} (hQ : Q (.bytes b t) s) : codeAny (model c.prog c.w) A (.call (.builtin "bytes.__new__") ⟨[.type "bytes", .bytes b t], []⟩) (wants Q Ex) s := by
  refine codeAny_of_tree ?_
  show wpAny _ A.in1 (do checkBuiltinCall "bytes.__new__" ⟨[.type "bytes", .bytes b t], []⟩; again (.builtin "bytes.__new__" ⟨[.type "bytes", .bytes b t], []⟩)) _ _ s
  refine wpAny_bind (wpAny_of_eq (PySem.F.bm_newCall _) (wpAny_pure ⟨plainId_quiet PySem.F.bm_plain _, codeAny_builtin PySem.F.bm_entry ?_⟩))
  rw [Around.under_plainId PySem.F.bm_plain _]
  unfold Builtin.«bytes.__new__»
  refine wpAny_bind (wpAny_of_eq (a := true) rfl ?_)
  refine bm_if_false rfl ?_
  refine wpAny_bind (wpAny_of_eq PySem.F.bm_sub ?_)
  refine bm_if_false rfl ?_
  refine wpAny_bind (wpAny_of_eq (PySem.F.bm_bind _) ?_)
  refine wpAny_bind (wpAny_of_eq (a := ()) rfl ?_)
  refine wpAny_bind (wpAny_of_eq (a := ()) rfl ?_)
  refine bm_if_false rfl ?_
  refine wpAny_bind (wpAny_specialOf (typeIs_bytes _ _ _) F.bb_slot ?_)
  refine wpAny_bind (wpAny_rule ?_)
  refine wpAny_bind (wpAny_typeOf (typeIs_bytes _ _ _) ?_)
  refine bm_if_true rfl ?_
  refine wpAny_of_eq (a := Fin.done (.ret (.bytes b t))) (by kernel_rfl) ?_
  exact hQ
theorem call_bytes_bytes {b : Array UInt8} {t : Tok} (hQ : Q (.bytes b t) s) : wpAny (model c.prog c.w) A (call (.type "bytes") [.bytes b t]) Q Ex s := by
  refine callType_codes (Q₁ := fun obj s₁ => s₁.TypeIs obj "bytes" ∧ Q obj s₁) PySem.F.bm_called (PySem.F.bm_typeCall _) PySem.F.entry_object_init (bb_new ⟨typeIs_bytes _ _ _, hQ⟩) fun obj s₁ h₁ => ?_
  exact ⟨h₁.1, PySem.F.args_object_init_2 obj _, object_init_meets PySem.F.bm_called.init.lookup PySem.F.bm_called.made (by decide) c.prog c.w A.in1 _ s₁ ⟨h₁.1, rfl, h₁.2⟩⟩
theorem ints_of {l : List Value} {k : List Int} (h : All2 (fun i v => ∃ t, v = Value.int i t) k l) : IntsAre l k := by
  induction k generalizing l with
  | nil => cases h; exact .nil
  | cons i k ih => obtain ⟨w, r, rfl, ⟨t, rfl⟩, b⟩ := h; exact .cons _ _ (ih b)
theorem of_ints {l : List Value} {k : List Int} (h : IntsAre l k) {X : Addr → Prop} {hp : Heap} : All2 (Rep X hp) (k.map D.int) l := by
  induction h with
  | nil => exact rfl
  | cons i t _ ih => exact ⟨_, _, rfl, ⟨t, rfl⟩, ih⟩
theorem asInts_are {X : Addr → Prop} {h : Heap} {vs : List Value} {l : List D} {k : List Int} (r : All2 (Rep X h) l vs) (e : asInts l = some k) : IntsAre vs k := by
  induction l generalizing vs k with
  | nil => cases r; cases e; exact .nil
  | cons d l ih =>
    obtain ⟨w, ws, rfl, R, r⟩ := r
    cases d with
    | int m => obtain ⟨b, e', rfl⟩ := Option.map_eq_some_iff.mp e; obtain ⟨t, rfl⟩ := R; exact .cons _ _ (ih r e')
    | _ => cases e
theorem toB_eq {k : List Int} {b : List UInt8} (e : toB k = some b) : (∀ n ∈ k, 0 ≤ n ∧ n < 256) ∧ (k.map fun n => n.toNat.toUInt8) = b := by
  induction k generalizing b with
  | nil => cases e; exact ⟨fun _ m => (nomatch m), rfl⟩
  | cons i k ih =>
    unfold toB at e
    by_cases q : 0 ≤ i ∧ i < 256
    · rw [if_pos q] at e
      obtain ⟨b', e', rfl⟩ := Option.map_eq_some_iff.mp e
      obtain ⟨h1, rfl⟩ := ih e'
      exact ⟨fun n hn => (List.mem_cons.mp hn).elim (fun e => e ▸ q) (h1 n), rfl⟩
    · rw [if_neg q] at e; cases e
theorem small_sorted {k ns : List Int} (h : k.length ≤ 2) (hp : ns.Perm k) (hs : ns.Pairwise (· ≤ ·)) : ns = sortI k := by
  match k, h with
  | [], _ => exact hp.eq_nil
  | [a], _ => exact List.perm_singleton.mp hp
  | [a, b], _ =>
    have hl := hp.length_eq
    have s2 : (sortI [a, b]).Perm [a, b] ∧ (sortI [a, b]).Pairwise (· ≤ ·) := by
      show (if a < b then [a, b] else [b, a]).Perm [a, b] ∧ (if a < b then [a, b] else [b, a]).Pairwise (· ≤ ·)
      by_cases q : a < b
      · rw [if_pos q]; exact ⟨.refl _, by simp; omega⟩
      · rw [if_neg q]; exact ⟨.swap .., by simp; omega⟩
    exact (hp.trans s2.1.symm).eq_of_pairwise (fun _ _ _ _ h1 h2 => Int.le_antisymm h1 h2) hs s2.2
theorem dict_keys_are {X : Addr → Prop} {ft : Ft} {h : Heap} {l : List (Key × V)} {kvs : List (Key × Value)} {k : List Int} (r : RepKs X ft h l kvs) (e : asInts (l.map (·.1.d)) = some k) : kvs.map (·.1) = k.map Key.i := by
  induction l generalizing kvs k with
  | nil => cases r; cases e; rfl
  | cons p l ih =>
    obtain ⟨q, kvs, rfl, ⟨a, _⟩, r⟩ := r
    obtain ⟨y, v⟩ := p
    cases y with
    | i i => obtain ⟨k', e', rfl⟩ := Option.map_eq_some_iff.mp e; exact congr (congrArg List.cons a.symm) (ih r e')
    | s n => cases e
theorem sorted_dict {d : Addr} {kvs : List (Key × Value)} {k : List Int} (hh : A.handled = none) (hd : (d == sysModules) = false) (hD : s.heap.DictOf (mixKind c.prog c.w) d kvs) (hk : kvs.map (·.1) = k.map Key.i) (h2 : k.length ≤ 2)
    (hQ : ∀ h' t a vs, (∀ b o, s.heap.get? b = some o → h'.get? b = some o) → s.heap.get? a = none → h'.PlainList a (Array.mk vs) → IntsAre vs (sortI k) → Q (.ref a) { s with heap := h', toks := t }) :
    wpAny (model c.prog c.w) A (call (.builtin "sorted") [.ref d]) Q Ex s := by
  obtain ⟨ep, hat⟩ := hD.dictAt
  have hn : kvs.length = k.length := by have := congrArg List.length hk; simpa using this
  refine Calls.call_function_entry kind_sorted plain_sorted entry_sorted (args_sorted1 _) ?_
  unfold Builtin.«sorted»
  refine wpAny_bind (m := checkCount "sorted" 1 1 _) (wpAny_pure ?_)
  refine wpAny_bind (kdu_collect (A := A.in1) (kdl_dict (knd := mixKind c.prog c.w) (kvs := kvs) (ep := ep) hd) hh hat (by rw [sizeLine_eq]; omega) fun h' tk acc keep hacc => ?_)
  have hl : acc.toList.length = kvs.length := by rw [Array.length_toList]; exact hacc.1
  have hI : IntsAre acc.toList k := by
    refine ints_of ?_
    have : ∀ (l : List Value) (k : List Int), l.length = k.length → (∀ (i : Nat) (v : Value), l[i]? = some v → ∃ j t, k[i]? = some j ∧ v = Value.int j t) → All2 (fun i v => ∃ t, v = Value.int i t) k l := by
      intro l k
      induction k generalizing l with
      | nil => intro hl _; exact List.eq_nil_of_length_eq_zero hl
      | cons j k ih =>
        intro hl hv
        cases l with
        | nil => cases hl
        | cons v l =>
          obtain ⟨j', t, e1, e2⟩ := hv 0 v rfl
          cases e1
          exact ⟨v, l, rfl, ⟨t, e2⟩, ih l (Nat.succ.inj hl) fun i v e => hv (i + 1) v e⟩
    refine this _ _ (by rw [hl, hn]) fun i v e => ?_
    obtain ⟨key, y, e1, e2⟩ := hacc.2 i v (by rw [← Array.getElem?_toList]; exact e)
    have e3 : (kvs.map (·.1))[i]? = some key := by rw [List.getElem?_map, e1]; rfl
    rw [hk, List.getElem?_map] at e3
    obtain ⟨j, e4, rfl⟩ := Option.map_eq_some_iff.mp e3
    obtain ⟨t, rfl⟩ := @of_decide_eq_true _ (Classical.propDecidable _) e2
    exact ⟨j, t, e4, rfl⟩
  refine wpAny_bind (wpAny_newList ?_ (by rw [hl, sizeLine_eq]; omega))
  have hoL : (h'.push (seqObj "list" acc.toList.toArray 0)).get? h'.objs.size = some (seqObj "list" acc.toList.toArray 0) := Heap.get?_push_size _ rfl
  refine wpAny_bind (wpAny_holding (wpAny_call_entry slot_list_sort ⟨_, hoL, rfl⟩ entry_list_sort (list_sort_tree hoL hI (by rw [hl]; omega) fun out ns' a1 a2 a3 => ⟨_, rfl, ?_⟩) (args_list_sort _)))
  have hns : ns' = sortI k := small_sorted h2 a2 a3
  subst hns
  obtain ⟨e1, he⟩ := sortedHeap_at (out := out) hoL
  refine wpAny_pure ⟨_, rfl, hQ _ _ h'.objs.size out.toList (fun b o e => ?_) ?_ ⟨e1, he⟩ a1⟩
  · have q := keep b o e
    have lt := Heap.lt_size q
    rw [sortedHeap_old (Nat.ne_of_lt lt) (by rw [size_push']; exact Nat.lt_succ_of_lt lt)]
    exact Heap.get?_push_of_some _ q
  · cases e : s.heap.get? h'.objs.size with
    | none => rfl
    | some o => exact absurd (Heap.lt_size (keep _ _ e)) (Nat.lt_irrefl _)
end
section
variable {κ : Kx} {σ : Sg} {P : PV} {Q : Value → Shared → Prop} {vs : List V} {ws : List Value}
theorem one_el {P : V → Prop} {C : List Value → Prop} {Z : Addr → Prop} (e : one vs P) (R : Rvs Z σ vs ws) (k : ∀ v w, P v → Rv Z σ v w → C [w]) : C ws := by
  cases vs with
  | nil => exact e.elim
  | cons v l =>
    obtain ⟨w, r, rfl, a, R⟩ := R
    cases l with
    | nil => cases R; exact k v w e a
    | cons u l => exact e.elim
theorem grown_list {h' : Heap} {l : List D} {us : List Value} {a : Addr} {t : Nat} (k : Kv κ σ P Q) (g : G κ σ) (kk : ∀ b o, σ.s.heap.get? b = some o → h'.get? b = some o) (ha : σ.s.heap.get? a = none) (p : h'.PlainList a (Array.mk us)) (r : All2 (Rep (Xs σ.ft κ.Z) h') l us) (e : P (.d (.lst l)) σ.S) :
    Q (.ref a) { σ.s with heap := h', toks := t } := k.grow (v := .d (.lst l)) g kk t ⟨a, us, rfl, p, g.inv.fresh ha, .of r⟩ e
theorem op_bi {b : Bi} (g : G κ σ) (R : Rvs κ.Z σ vs ws) (e : biP b vs σ.S (kd P σ.S)) (k : Kv κ σ P Q) : W κ (call b.val ws) Q σ.s := by
  have two : ∀ {C : Int → Int → Int} {b : Bi}, (two vs fun v w => asI v fun a => asI w fun b => P (.d (.int (C a b))) σ.S) → (∀ a b' t u, P (.d (.int (C a b'))) σ.S → Wa κ (call b.val [.int a t, .int b' u]) Q σ.s) → W κ (call b.val ws) Q σ.s := fun {C b} e f => by
    cases vs with
    | nil => exact e.elim
    | cons v l =>
      obtain ⟨w, r, rfl, a, R⟩ := R
      apply one_el e R; intro v w2 e R2
      apply asI_el e a; intro i t e
      apply asI_el e R2; intro j u e
      exact wpG_of (f i j t u e)
  cases b with
  | len =>
    apply one_el e R; intro v w e R
    apply asD_el e R; intro d _ R e
    cases d with
    | bytes l =>
      obtain ⟨t, rfl⟩ := R
      exact wpG_of (call_len_gives (typeIs_bytes _ _ _) FB.slot_bytes_len FB.entry_bytes_len (FB.args_bytes_len_1 _) (gives_bytes_len _ _) (Int.not_lt.mpr (Int.natCast_nonneg _)) (Int.not_le.mpr (Int.lt_of_le_of_lt (Int.ofNat_le.mpr e.1) (by decide : ((lim : Nat) : Int) < 2 ^ 63))) (k.int g e.2))
    | lst l =>
      obtain ⟨a, us, rfl, p, _, r⟩ := R
      have hz := r.all.length
      refine wpG_of (call_len_list p.isList ?_ ?_)
      · show ((us.length : Nat) : Int) < _; rw [hz]; exact Int.lt_of_le_of_lt (Int.ofNat_le.mpr e.1) (by decide : ((lim : Nat) : Int) < 2 ^ 63)
      · rw [show (((Array.mk us).size : Nat) : Int) = l.length from congrArg _ hz]
        exact k.int g e.2
    | _ => exact e.elim
  | min =>
    refine two (b := .min) e fun a b t u e => min_two_ints g.bud.hd fun h' tk kk => ?_
    rw [show (min a b : Int) = if b < a then b else a by split <;> omega] at e
    split <;> (rename_i q; first | rw [if_pos q] at e | rw [if_neg q] at e) <;> exact k.grow (v := .d (.int _)) g kk tk ⟨_, rfl⟩ e
  | max =>
    refine two (b := .max) e fun a b t u e => max_two_ints g.bud.hd fun h' tk kk => ?_
    rw [show (max a b : Int) = if a < b then b else a by split <;> omega] at e
    show Q (if a < b then _ else _) _
    split <;> (rename_i q; first | rw [if_pos q] at e | rw [if_neg q] at e) <;> exact k.grow (v := .d (.int _)) g kk tk ⟨_, rfl⟩ e
  | abs =>
    apply one_el e R; intro v w e R
    apply asI_el e R; intro a t e
    refine wpG_of (call_abs_int fun u t => ?_)
    rw [show (if a < 0 then -a else a) = (a.natAbs : Int) from by split <;> omega]
    exact k.int g e
  | sum =>
    apply one_el e R; intro v w e R
    apply asL_el e R; intro l a us e p _ r
    obtain ⟨ks, e1, e⟩ := onS_el e
    have hi := asInts_are r e1
    obtain ⟨xs, hx⟩ := hi.allInts.items
    refine wpG_of (sum_intListG g.bud.hd (hx ▸ (show σ.s.heap.IsList a us.toArray from p.isList)) fun h' t t' kk => ?_)
    have q1 : ks = xs.toList.map (·.1) := by
      rw [← nums_intItems, ← hx]
      exact (show numsOf us.toArray.toList = ks from hi.numsOf).symm
    rw [show preSum (numAt xs) xs.size = ks.sum by rw [preSum_eq, List.take_of_length_le (by rw [List.length_map, Array.length_toList]; exact Nat.le_refl _), q1]]
    exact k.grow (v := .d (.int _)) g kk _ ⟨_, rfl⟩ e
  | sorted =>
    apply one_el e R; intro v w e R
    cases v with
    | d d =>
      cases d with
      | lst l =>
        obtain ⟨a, us, rfl, p, _, r⟩ := R
        obtain ⟨ks, e1, e⟩ := onS_el e
        obtain ⟨hz, e⟩ := e
        obtain ⟨out, e2, e⟩ := onS_el e
        have r := r.all
        obtain ⟨h1, h2⟩ := keyed_tup r e1
        refine wpG_of (tup_sorted p.isList h1 (h2 ▸ r) (by rw [r.length]; exact hz) e2 fun ws Rw hw => ?_)
        obtain ⟨e3, he⟩ := sortedAll_at σ.s.heap us ws.toArray
        have kk : ∀ b o, σ.s.heap.get? b = some o → (sortedAll σ.s.heap us ws.toArray).get? b = some o := fun b o q => sortedAll_old q
        exact grown_list k g kk (Heap.get?_none_of_le (Nat.le_succ _)) ⟨e3, he⟩ (Rw.imp fun d _ r => Rep.move (fun b o q _ => kk b o q) (fun _ _ _ m => m) d r) e
      | _ => exact e.elim
    | loc i =>
      obtain ⟨p, hp, rfl⟩ := R
      obtain ⟨z, hz, e⟩ := e.h
      obtain ⟨l, ⟨pe, kvs, D, r⟩, e⟩ := asDic_el (g.inv.at' hp hz) e
      obtain ⟨ks, e1, e2, e⟩ := onS_el e
      have hk := dict_keys_are r e1
      have hlen : ks.length ≤ 2 := by
        have q1 := congrArg List.length hk
        rw [List.length_map, List.length_map, r.length] at q1
        exact q1 ▸ e2
      rw [pe]
      exact wpG_of (sorted_dict g.bud.hd (g.inv.nsys pe hp) D hk hlen fun h' t a vs kk ha p hi => grown_list k g kk ha p (of_ints hi) e)
  | bytes =>
    apply one_el e R; intro v w e R
    apply asD_el e R; intro d _ R e
    cases d with
    | bytes l => obtain ⟨t, rfl⟩ := R; exact wpG_of (call_bytes_bytes (k.tok (v := .d (.bytes l)) g σ.s.toks ⟨_, rfl⟩ e))
    | lst l =>
      obtain ⟨a, us, rfl, p, _, r⟩ := R
      obtain ⟨hz, e⟩ := e
      obtain ⟨ks, e1, e⟩ := onS_el e
      obtain ⟨bs, e2, e⟩ := onS_el e
      obtain ⟨h1, rfl⟩ := toB_eq e2
      have r := r.all
      exact wpG_of (call_bytes_ints p.isList (asInts_are r e1) h1 (by rw [r.length]; exact Nat.le_trans hz (by decide)) g.bud.hd fun h' t t' kk => k.grow (v := .d (.bytes _)) g kk _ ⟨_, rfl⟩ e)
    | _ => exact e.elim
  | int =>
    apply one_el e R; intro v w e R
    apply asD_el e R; intro d _ R e
    cases d with
    | int i => obtain ⟨t, rfl⟩ := R; exact wpG_of (call_int_int (k.tok (v := .d (.int i)) g σ.s.toks ⟨_, rfl⟩ e))
    | bool b => cases R; cases b <;> exact wpG_of (call_int_bool (k.int g e))
    | _ => exact e.elim
  | list =>
    apply one_el e R; intro v w e R
    apply asL_el e R; intro l a us e p _ r
    obtain ⟨m, p⟩ := p
    refine wpG_of (call_list_seq a (.inl rfl) p rfl rfl (fun h' c' kk hn => ?_) (by show us.length ≤ _; rw [r.length]; exact Nat.le_trans e.1 (by decide)))
    exact grown_list k g kk (Heap.get?_none_of_le (Nat.le_refl _)) ⟨c', hn⟩ (r.imp fun d _ r => Rep.move (fun b o q _ => kk b o q) (fun _ _ _ m => m) d r) e.2
end
end
section
namespace F
theorem slot_bytes_join : Slot "bytes" "join" "bytes.join" :=
  .of (owner := "bytes") (n := "join") (by rw [typeLookup_type, builtinLookup_eq_fast]; kernel_rfl) (by decide +kernel) (by decide +kernel) (by decide +kernel)
    (by first | exact .inl (by decide +kernel) | exact .inr (by decide +kernel)) (by rw [isSubtype_type]; kernel_rfl)
theorem entry_bytes_join : entryFor table "bytes.join" = some Builtin.«bytes.join» := entryFor_of_fast (by kernel_rfl)
theorem args_bytes_join (a b : Value) : argsOk "bytes.join" ⟨[a, b], []⟩ := by unfold argsOk; kernel_rfl
theorem type_bytes_join : typeOf (.builtin "bytes.join") = pure (.type "method_descriptor") := by kernel_rfl
theorem plainAttrs_bytes : PlainAttrs "bytes" := ⟨⟨"bytes.__getattribute__", by rw [typeLookup_type, builtinLookup_eq_fast]; kernel_rfl, by decide +kernel⟩, by rw [typeLookup_type, builtinLookup_eq_fast]; kernel_rfl⟩
theorem bytes_buffer : typeLookup (.type "bytes") "__buffer__" = pure (some (.builtin "bytes.__buffer__")) := by rw [typeLookup_type, builtinLookup_eq_fast]; kernel_rfl
end F
section
variable {c : Cx} {s : Shared} {A : Around} {Q : Value → Shared → Prop} {Ex : Value → Shared → Prop}
def ByIs : List (List UInt8) → List Value → Prop := All2 fun b v => ∃ t, v = .bytes (Array.mk b) t
theorem joined_by {X : Addr → Prop} {h : Heap} {l : List D} {vs : List Value} {o : List UInt8} (r : All2 (Rep X h) l vs) (e : joined l = some o) : ∃ bs, ByIs bs vs ∧ bs.flatten = o := by
  induction l generalizing vs o with
  | nil => cases r; cases e; exact ⟨[], rfl, rfl⟩
  | cons d l ih =>
    obtain ⟨w, ws, rfl, R, r⟩ := r
    cases d with
    | bytes b =>
      obtain ⟨b', e', rfl⟩ := Option.map_eq_some_iff.mp e
      obtain ⟨bs, q, rfl⟩ := ih r e'
      exact ⟨b :: bs, ⟨w, ws, rfl, R, q⟩, rfl⟩
    | _ => cases e
theorem fold_joined : ∀ (bs : List (List UInt8)) (k : Nat) (out : Array UInt8), (List.zipIdx (bs.map Array.mk) k).foldl (fun out (q : Array UInt8 × Nat) => (if q.2 > 0 then out ++ #[] else out) ++ q.1) out = out ++ Array.mk bs.flatten
  | [], k, out => by simp
  | b :: bs, k, out => by
    rw [List.map_cons, List.zipIdx_cons, List.foldl_cons, fold_joined bs]
    split <;> (apply Array.toList_inj.mp; simp)
theorem take_eq {id : String} {b : Array UInt8} {t : Tok} : Builtin.Bytes.takeBuffer? id (.bytes b t) 0 = pure (some (b, none)) := by
  unfold Builtin.Bytes.takeBuffer?
  rw [KBy.special_eq KBy.look_buffer, KBy.own_buffer]
  simp only [pure_bind]
  show (do return (← Builtin.Bytes.buffer? id (.bytes b t) (full := false)).map (·, none)) = _
  rw [KBy.buffer_eq]
  rfl
theorem takeQuiet_eq {id : String} {b : Array UInt8} {t : Tok} : Builtin.Bytes.takeBufferQuiet? id (.bytes b t) 0 = pure (some (b, none)) := by
  unfold Builtin.Bytes.takeBufferQuiet?
  rw [take_eq]
  rfl
theorem joinLetGo_ok {M : Model} {keep : List Value} {Q : Unit → Shared → Prop} : ∀ (vs : List Value), Q () s → wpAny M A (Builtin.Bytes.joinLetGo (vs.map fun v => (v, none)) keep) Q Ex s
  | [], h => by unfold Builtin.Bytes.joinLetGo; exact wpAny_pure h
  | v :: vs, h => by
    rw [List.map_cons]
    unfold Builtin.Bytes.joinLetGo
    refine wpAny_bind ?_
    unfold letGo
    refine wpAny_bind (wpAny_holding (wpAny_point ?_))
    unfold letGo
    exact wpAny_pure (joinLetGo_ok vs h)
theorem not_onHeap {bs : List (List UInt8)} {vs : List Value} (r : ByIs bs vs) : ((vs.map fun v => ((v, none) : Value × Option Value)).any (·.1.onHeap)) = false := by
  induction bs generalizing vs with
  | nil => cases r; rfl
  | cons b bs ih => obtain ⟨w, ws, rfl, ⟨t, rfl⟩, r⟩ := r; have := ih r; exact this
theorem range_loop {β : Type} {M : Model} {Q : β → Shared → Prop} (f : Nat → β → Sem (ForInStep β)) (I : Nat → β → Prop) (J : β → Prop) (n : Nat)
    (turn : ∀ i b, i < n → I i b → ∀ R : ForInStep β → Shared → Prop, (∀ b', I (i + 1) b' → R (.yield b') s) → (∀ b', J b' → R (.done b') s) → wpAny M A (f i b) R Ex s) :
    ∀ k i b, i + k = n → I i b → (∀ b, I n b ∨ J b → Q b s) → wpAny M A (forIn (List.range' i k) b f) Q Ex s
  | 0, i, b, e, hi, h => by
    rw [show List.range' i 0 = [] from rfl, List.forIn_nil]
    exact wpAny_pure (h b (.inl (by rw [← e]; exact hi)))
  | k + 1, i, b, e, hi, h => by
    rw [List.range'_succ, List.forIn_cons]
    refine wpAny_bind (turn i b (by omega) hi _ (fun b' hb' => ?_) fun b' hb' => ?_)
    · exact range_loop f I J n turn k (i + 1) b' (by omega) hb' h
    · exact wpAny_pure (h b' (.inr hb'))
theorem fold_sizes : ∀ (bs : List (List UInt8)) (z : Nat), (bs.map Array.mk).foldl (fun (x : Nat) (y : Array UInt8) => x + y.size) z = z + bs.flatten.length
  | [], z => by simp
  | b :: bs, z => by
    rw [List.map_cons, List.foldl_cons, fold_sizes bs]
    simp; omega
theorem call_join {l : Addr} {vs : List Value} {bs : List (List UInt8)} {t0 : Tok} (hl : s.heap.IsList l (Array.mk vs)) (hb : ByIs bs vs) (hz : bs.flatten.length ≤ 1000000) (hn : vs.length ≤ 1000000)
    (h : ∀ t k, Q (.bytes (Array.mk bs.flatten) t) { s with toks := k }) : wpAny (model c.prog c.w) A (call (.builtin "bytes.join") [.bytes #[] t0, .ref l]) Q Ex s := by
  obtain ⟨o, ho, hc, m, hd⟩ := id hl
  refine wpAny_call_entry F.slot_bytes_join (typeIs_bytes _ _ _) F.entry_bytes_join ?_ (F.args_bytes_join _ _)
  unfold Builtin.«bytes.join» Builtin.Bytes.joinM
  refine wpAny_bind (wpAny_pure ?_)
  refine wpAny_bind ?_
  show wpAny _ _ (Builtin.Bytes.joinItems (.ref l)) _ _ _
  unfold Builtin.Bytes.joinItems
  refine wpAny_bind (wpAny_typeOf hl.typeIs ?_)
  refine bm_if_true (by decide +kernel) (wpAny_pure ?_)
  refine wpAny_bind (wpAny_seqItems ho hd ?_)
  refine bm_if_true (by decide) ?_
  have fin : ∀ (P : PySem.Fin → Shared → Prop) (E' : Value → Shared → Prop) (z : Nat), (∀ t k, P (.done (.ret (.bytes (Array.mk bs.flatten) t))) { s with toks := k }) → wpAny (model c.prog c.w) A.in1 (do
      let result ← Builtin.Bytes.Kind.bytes.new (Builtin.Bytes.joined #[] (bs.map Array.mk))
      holding (result :: (vs.map fun v => ((v, none) : Value × Option Value)).flatMap fun x => match x with | (y, u) => y :: u.toList) point
      Builtin.Bytes.joinLetGo (vs.map fun v => (v, none)) [result]
      ret result) P E' s := by
    intro P E' z h
    have e : Builtin.Bytes.joined #[] (bs.map Array.mk) = Array.mk bs.flatten := by
      unfold Builtin.Bytes.joined
      rw [fold_joined]; simp
    rw [e]
    refine wpAny_bind ?_
    show wpAny _ _ (mkBytes _) _ _ _
    refine wpAny_mkBytes ?_ (by rw [sizeLine_eq]; simpa using Nat.le_trans hz (by decide))
    refine wpAny_bind (wpAny_holding (wpAny_point ?_))
    refine wpAny_bind (joinLetGo_ok vs ?_)
    exact wpAny_pure (h _ _)
  cases bs with
  | nil =>
    cases hb
    refine wpAny_bind ?_
    rw [Std.Legacy.Range.forIn_eq_forIn_range']
    refine range_loop _ (fun _ b => b = ((#[] : Array (Array UInt8)), ([] : List (Value × Option Value)))) (fun _ => False) 0 (fun i b q => absurd q (by omega)) 0 0 _ rfl rfl fun b hb => ?_
    obtain rfl := hb.resolve_right id
    refine wpAny_bind (wpAny_pure ?_)
    exact fin _ _ 0 fun t k => ⟨_, rfl, h t k⟩
  | cons b bs =>
    obtain ⟨w, vs, rfl, ⟨t, rfl⟩, r⟩ := hb
    cases bs with
    | nil =>
      cases r
      refine wpAny_bind (wpAny_typeOf (typeIs_bytes _ _ _) ?_)
      refine bm_if_true (by decide +kernel) ?_
      refine wpAny_bind (wpAny_rule ?_)
      have := h t s.toks
      simp only [List.flatten_cons, List.flatten_nil, List.append_nil] at this
      exact wpAny_pure ⟨_, rfl, this⟩
    | cons b2 bs =>
      obtain ⟨w, vs, rfl, ⟨t2, rfl⟩, r⟩ := r
      refine wpAny_bind ?_
      rw [Std.Legacy.Range.forIn_eq_forIn_range']
      have hb : ByIs (b :: b2 :: bs) (.bytes (Array.mk b) t :: .bytes (Array.mk b2) t2 :: vs) := ⟨_, _, rfl, ⟨t, rfl⟩, _, _, rfl, ⟨t2, rfl⟩, r⟩
      generalize hvs : (Value.bytes (Array.mk b) t :: .bytes (Array.mk b2) t2 :: vs) = VS at hb hl ho hd hn fin ⊢
      generalize hbs : b :: b2 :: bs = BS at hb hz h fin ⊢
      rw [show Std.Legacy.Range.size [:(Array.mk VS).size] = VS.length from by simp [Std.Legacy.Range.size]]
      refine range_loop _ (fun i q => q = (((BS.take i).map Array.mk).toArray, (VS.take i).map fun v => (v, none))) (fun _ => False) VS.length (fun i q hi hq R hy _ => ?_) VS.length 0 (#[], []) (by omega) (by simp) fun q hq => ?_
      · subst hq
        refine wpAny_bind (wpAny_seqItems ho hd ?_)
        dsimp only
        obtain ⟨b0, hb0⟩ : ∃ b0, BS[i]? = some b0 := ⟨_, List.getElem?_eq_getElem (by rw [← All2.length hb]; exact hi)⟩
        obtain ⟨w, hx1, tt, rfl⟩ := All2.get hb hb0
        have hx : (Array.mk VS).getD i Value.none = .bytes (Array.mk b0) tt := by rw [← getD_of hx1]; simp [Array.getD, List.getD, hi]
        refine bm_if_false (by rw [not_onHeap (All2.take i hb)]; decide) ?_
        rw [hx]
        refine wpAny_bind (wpAny_holding (wpAny_of_eq takeQuiet_eq ?_))
        dsimp only
        refine wpAny_bind (wpAny_seqItems ho hd ?_)
        dsimp only
        refine bm_if_false (by simp) (wpAny_pure (hy _ ?_))
        rw [List.take_add_one, List.take_add_one, hb0, hx1]
        simp
      · obtain rfl := hq.resolve_right id
        refine wpAny_bind (wpAny_pure ?_)
        rw [List.take_of_length_le (by rw [All2.length hb]; exact Nat.le_refl _), List.take_of_length_le (Nat.le_refl _)]
        dsimp only
        refine bm_if_false (KBy.tooLong_not ?_) (fin _ _ 0 fun t k => ⟨_, rfl, h t k⟩)
        have := fold_sizes BS 0
        simp only [List.size_toArray, List.length_nil, Nat.zero_mul]
        have e : Array.foldl (fun (x : Nat) (y : Array UInt8) => x + y.size) 0 (List.map Array.mk BS).toArray = 0 + BS.flatten.length := by simpa using this
        simp only [List.size_toArray] at e
        exact Nat.le_trans (Nat.le_of_eq e) (by omega)
theorem placeOf_ints {X : Addr → Prop} {h : Heap} {i : Int} {l : List D} {vs : List Value} {p : Nat} (r : All2 (Rep X h) l vs) (e : placeOf i l = some p) : (∃ t, vs[p]? = some (.int i t)) ∧ ∀ q, q < p → ∃ j t, vs[q]? = some (.int j t) ∧ j ≠ i := by
  induction l generalizing vs p with
  | nil => cases e
  | cons d l ih =>
    obtain ⟨w, ws, rfl, R, r⟩ := r
    cases d with
    | int m =>
      obtain ⟨t, rfl⟩ := R
      unfold placeOf at e
      by_cases q : m = i
      · have e : some 0 = some p := (if_pos q).symm.trans e
        cases e; cases q
        exact ⟨⟨_, rfl⟩, fun q hq => absurd hq (Nat.not_lt_zero _)⟩
      · have e : Option.map (· + 1) (placeOf i l) = some p := (if_neg q).symm.trans e
        obtain ⟨p', e', rfl⟩ := Option.map_eq_some_iff.mp e
        obtain ⟨h1, h2⟩ := ih r e'
        refine ⟨h1, fun q' hq => ?_⟩
        cases q' with
        | zero => exact ⟨m, _, rfl, q⟩
        | succ q' => exact h2 q' (Nat.lt_of_succ_lt_succ hq)
    | _ => cases e
theorem range_loop2 {β : Type} {M : Model} {Q : β → Shared → Prop} (f : Nat → β → Sem (ForInStep β)) (I : Nat → β → Prop) (J : β → Shared → Prop) (n : Nat)
    (turn : ∀ i b, i < n → I i b → ∀ R : ForInStep β → Shared → Prop, (∀ b', I (i + 1) b' → R (.yield b') s) → (∀ b' s', J b' s' → R (.done b') s') → wpAny M A (f i b) R Ex s) :
    ∀ k i b, i + k = n → I i b → (∀ b, I n b → Q b s) → (∀ b s', J b s' → Q b s') → wpAny M A (forIn (List.range' i k) b f) Q Ex s
  | 0, i, b, e, hi, h, _ => by
    rw [show List.range' i 0 = [] from rfl, List.forIn_nil]
    exact wpAny_pure (h b (by rw [← e]; exact hi))
  | k + 1, i, b, e, hi, h, g => by
    rw [List.range'_succ, List.forIn_cons]
    refine wpAny_bind (turn i b (by omega) hi _ (fun b' hb' => ?_) fun b' s' hb' => ?_)
    · exact range_loop2 f I J n turn k (i + 1) b' (by omega) hb' h g
    · exact wpAny_pure (g b' s' hb')
theorem call_index {a : Addr} {vs : List Value} {i : Int} {u : Tok} {p : Nat} (ha : IsTup s.heap a (Array.mk vs)) (hp : ∃ t, vs[p]? = some (.int i t)) (hq : ∀ q, q < p → ∃ j t, vs[q]? = some (.int j t) ∧ j ≠ i)
    (h : ∀ t k, Q (.int p t) { s with toks := k }) : wpAny (model c.prog c.w) A (call (.builtin "tuple.index") [.ref a, .int i u]) Q Ex s := by
  obtain ⟨o, ho, hc, m, hd⟩ := id ha
  refine wpAny_call_entry PySem.F.slot_tuple_index ha.typeIs PySem.F.entry_tuple_index ?_ (PySem.F.args_tuple_index_2 _ _)
  unfold Builtin.«tuple.index»
  refine wpAny_bind (wpAny_of_eq (a := (Value.ref a, [Value.int i u])) rfl ?_)
  dsimp only
  unfold Builtin.Tuple.tupleItemsOf
  refine wpAny_bind (wpAny_bind (wpAny_seqItems ho hd (wpAny_pure ?_)))
  refine wpAny_bind (wpAny_pure ?_)
  refine wpAny_bind (wpAny_pure ?_)
  refine wpAny_bind ?_
  rw [Std.Legacy.Range.forIn_eq_forIn_range']
  rw [show Std.Legacy.Range.size [0:min (Array.mk vs).size (Array.mk vs).size] = vs.length from by simp [Std.Legacy.Range.size]]
  obtain ⟨tp, hp⟩ := hp
  have lp : p < vs.length := (List.getElem?_eq_some_iff.mp hp).1
  refine range_loop2 _ (fun k b => k ≤ p ∧ b = (none, ())) (fun b s' => ∃ t k, b = (some (.done (.ret (.int p t))), ()) ∧ s' = { s with toks := k }) vs.length (fun k b hk hb R hy hd' => ?_) vs.length 0 (none, ()) (by omega) ⟨Nat.zero_le _, rfl⟩ (fun b hb => by omega) fun b s' hb => ?_
  · obtain ⟨hkp, rfl⟩ := hb
    rcases Nat.lt_or_eq_of_le hkp with lt | rfl
    · obtain ⟨j, tj, hj, nj⟩ := hq k lt
      rw [show (Array.mk vs)[k]? = some (.int j tj) from by simpa using hj]
      refine wpAny_bind (wpAny_eqBool_int ?_)
      refine bm_if_false (beq_eq_false_iff_ne.mpr nj) (wpAny_pure (hy _ ⟨by omega, rfl⟩))
    · rw [show (Array.mk vs)[k]? = some (.int i tp) from by simpa using hp]
      refine wpAny_bind (wpAny_eqBool_int ?_)
      refine bm_if_true (by simp) ?_
      refine wpAny_bind (wpAny_bind (wpAny_mkInt (wpAny_pure (wpAny_pure (hd' _ _ ⟨_, _, rfl, rfl⟩)))))
  · obtain ⟨t, k, rfl, rfl⟩ := hb
    exact wpAny_pure ⟨_, rfl, h _ _⟩
end
end
section
theorem backTo_any (p : Pos) (l : List (Bool × Sem Value)) : (backTo p l).any (·.1) = l.any (·.1) := by
  induction l with
  | nil => rfl
  | cons a l ih => show (a.1 || (backTo p l).any (·.1)) = _; rw [ih]; rfl
theorem not_any (l : List (Bool × Sem Value)) : l.all (fun x => !x.1) = !l.any (·.1) := by
  induction l with
  | nil => rfl
  | cons a l ih => show (!a.1 && l.all fun x => !x.1) = _; rw [ih, ← Bool.not_or]; rfl
theorem decL_star {nf : Nat → Option Str} {sc : Scope} {env : Env} {l : List E} {es : List PySem.Expr} (h : decL nf l sc es = true) : (starEach es env).any (·.1) = false := by
  induction l generalizing es with
  | nil => cases List.isEmpty_iff.mp h; rfl
  | cons e l ih => cases es with
    | nil => cases h
    | cons x r =>
      obtain ⟨h1, h⟩ := and_el h
      rw [star_cons h1]
      exact ih (and_el h).2
theorem glob_el {sc : Scope} {t : Str} {x : PySem.Expr} {C : PySem.Expr → Prop} (e : glob sc t x = true) (k : ∀ p, sc.names.lookup t = some .globalImplicit → (t == ("__debug__" : Str)) = false → C (.Name t p)) : C x := by
  apply vName_el e; intro y p e
  obtain ⟨h1, e⟩ := and_el e
  obtain ⟨h2, h3⟩ := and_el e
  cases beq_iff_eq.mp h1
  exact k p (beq_iff_eq.mp h2) ((Bool.not_eq_true' _).mp h3)
theorem base_eq {o : PySem.Expr} {attr : Str} {env : Env} (h : notSuper o = true) (whole : Sem Value) : attributeBase o attr env whole = whole := by
  unfold attributeBase
  split
  · rename_i x p q
    have hx : (x == ("super" : Str)) = false := (Bool.not_eq_true' _).mp h
    rw [show (x != ("super" : Str)) = true by rw [bne, hx]; rfl]
    simp only [Bool.true_or, if_true]
  · rfl
theorem lk_object {n : N} (h : noObj n = true) : typeLookup (.type "object") n.str = pure none := by
  rw [typeLookup_type, builtinLookup_eq_fast, of_decide_eq_true h]
section
variable {M : Model} {A : Around} {s : Shared} {env : Env} {pos : Pos} {Q : Value → Shared → Prop}
theorem wpG_evalArgs {f : Value} {args : List (Bool × Sem Value)} {Q : Args → Shared → Prop} (hp : args.any (·.1) = false) (h : wpG M A (spliced args) (fun vs s' => Q ⟨vs, []⟩ s') s) : wpG M A (evalArgs f true args []) Q s := by
  cases args with
  | nil =>
    unfold evalArgs
    show wpG M A (spliced [] >>= _) Q s
    exact wpG_then h fun vs s' hq => wpG_bind (wpG_pure (wpG_holding (wpG_bind (wpG_pure (wpG_bind (wpG_pure (wpG_pure hq)))))))
  | cons p rest =>
    obtain ⟨b, t⟩ := p
    cases b with
    | true => cases hp
    | false =>
      unfold evalArgs
      show wpG M A (spliced ((false, t) :: rest) >>= _) Q s
      exact wpG_then h fun vs s' hq => wpG_holding (wpG_bind (wpG_pure (wpG_bind (wpG_pure (wpG_pure hq)))))
def Keeps (M : Model) (f : Value) (h : Heap) : Prop := ∃ k, (k = Keeper.frame ∨ k = Keeper.machine ∨ k = Keeper.boundFrame) ∧ Looks M h (keeperOf f) k
theorem g_callWith {f : Value} {first : List Value} {args : List (Bool × Sem Value)} (hp : args.any (·.1) = false)
    (h : wpG M A (spliced args) (fun vs s₁ => Keeps M f s₁.heap ∧ wpG M A (PySem.call f (first ++ vs) []) Q s₁) s) : wpG M A (callWith pos f first args []) Q s := by
  have hplain : (args.any (·.1) || ([] : List (Option Str × Sem Value)).any (·.1.isNone)) = false := by rw [hp]; rfl
  unfold callWith
  refine wpG_hold (wpG_evalArgs (Q := fun a s₁ => Keeps M f s₁.heap ∧ wpG M A (PySem.call f (first ++ a.pos) a.kw) Q s₁) hp h) fun a s₁ h₁ => wpG_sat ?_
  obtain ⟨⟨k, hk', L⟩, h₁⟩ := h₁
  simp only [hplain]
  refine wpG_bind (wpG_of (L.here ?_))
  have tail : ∀ {t : Sem Value}, wpG M A t Q s₁ → wpG M A (t >>= fun r => holding [r] point >>= fun _ => pure r) Q s₁ :=
    fun ht => wpG_then ht fun r s₂ hr => wpG_bind (wpG_holding (wpG_of (wpAny_point (wpG_pure hr))))
  have marked (mk : Value) : wpG M A (callMarked mk f (first ++ a.pos) a.kw) Q s₁ := fun Γ p hΓ g => by
    unfold callMarked
    rw [Sem.wp_keep]; exact h₁ Γ p hΓ g
  rcases hk' with rfl | rfl | rfl <;> dsimp only <;> first | exact tail h₁ | (split <;> first | exact tail h₁ | exact tail (marked _))
theorem g_Call_Name {id : Str} {p : Pos} {args : List PySem.Expr} (h : wpG M A (eval (.Name id p) env) (fun f s₁ => wpG M A (callWith pos f [] (backTo pos (starEach args env)) []) Q s₁) s) : wpG M A (eval (.Call (.Name id p) args [] pos) env) Q s := by
  show wpG M A (do callWith pos (← eval (.Name id p) env) [] (backTo pos (starEach args env)) (backToKw pos (keywordEach [] env))) Q s
  exact wpG_bind h
theorem g_meth {o : PySem.Expr} {name : Str} {apos : Pos} {args : List PySem.Expr} (hs : notSuper o = true) (hp : (starEach args env).any (·.1) = false) (hlen : args.length ≤ 20) (hline : (apos.endLine == pos.line) = true)
    (h : wpG M A (eval o env) (fun ov s₁ => ∀ pl, wpG M A (getMethod ov name pl) (fun fx s₂ => wpG M A (callWith pos fx.1 fx.2 (backTo pos (starEach args env)) []) Q s₂) s₁) s) :
    wpG M A (eval (.Call (.Attribute o name apos) args [] pos) env) Q s := by
  rw [arm_eval_Call, base_eq hs]
  refine wpG_then h fun ov s₁ h₁ => wpG_sat ?_
  have hform : methodCallForm (args.length + ([] : List Keyword).length) (backTo pos (starEach args env)) (backToKw pos (keywordEach [] env)) = true := by
    unfold methodCallForm
    rw [not_any, backTo_any, hp]
    show (true && decide (args.length + 0 < 30)) = true
    rw [decide_eq_true (by omega)]; rfl
  unfold methodCall
  rw [hform]
  refine wpG_bind (wpG_holding ?_)
  unfold calleeOf
  rw [if_pos rfl]
  refine wpG_mono (h₁ _) fun fx s₂ h₂ => wpG_bind ?_
  unfold methodCallPos
  rw [if_pos (by rw [hline]; rfl)]
  exact wpG_pure h₂
theorem keeps_machine {f : Value} {h : Heap} (hf : ∀ a, f ≠ .ref a) : Keeps M f h := by
  refine ⟨.machine, .inr (.inl rfl), Looks.of_pure ?_⟩
  cases f <;> first | rfl | exact absurd rfl (hf _)
theorem keeps_fn {a : Addr} {h : Heap} {o : Obj} {fd : FuncData} (e : h.get? a = some o) (d : o.data = .func fd) : Keeps M (.ref a) h := by
  obtain ⟨cl, dd, dt, sl⟩ := o
  cases d
  exact ⟨.frame, .inl rfl, (Looks.ld (part := none) e).andThen .now⟩
theorem keeps_cls {C Nd : Addr} {h : Heap} {mN : Str → Option Value} (X : ClsAt h C Nd mN) : Keeps M (.ref C) h := by
  obtain ⟨nm, q, bs, sn, sub, col, dd, k0, k1, k2, k3, k5, hC⟩ := X.obj
  refine ⟨.machine, .inr (.inl rfl), (Looks.ld (part := none) hC).andThen ?_⟩
  exact Looks.andThen (a := some (.builtin "type.__call__")) (fun A Q E s k q => wpAny_specialOf (T := "type") (by exact ⟨_, k _ _ hC, rfl⟩) tc_lookup q) .now
end
section
variable {κ : Kx} {σ : Sg} {P : PV} {Q : Value → Shared → Prop} {x : Str} {w : Value} {v : V} {pos : Pos}
theorem Inv.ns {c : Cx} {Z : Addr → Prop} {a : Addr} {m : Str → Option Value} (I : Inv c Z σ) (x : c.hb.Ns a m) : σ.s.heap.Ns a m := x.keeps I.base
theorem name_global {v : Value} (g : G κ σ) (hv : κ.c.mG x = some v) (hx : κ.env.scope.names.lookup x = some .globalImplicit) (hd : (x == ("__debug__" : Str)) = false) (k : Q v σ.s) : W κ (eval (.Name x pos) κ.env) Q σ.s :=
  wpG_of (Name_function_global g.ev.kind hx (loadGlobal_global (g.ev.glob ▸ g.inv.ns g.ok.g) hv k) hd)
theorem name_builtin {v : Value} (g : G κ σ) (hg : κ.c.mG x = none) (hv : κ.c.mB x = some v) (hx : κ.env.scope.names.lookup x = some .globalImplicit) (hd : (x == ("__debug__" : Str)) = false) (k : Q v σ.s) : W κ (eval (.Name x pos) κ.env) Q σ.s :=
  wpG_of (Name_function_global g.ev.kind hx (loadGlobal_builtin (g.ev.glob ▸ g.inv.ns g.ok.g) hg (g.ev.bi ▸ g.inv.ns g.ok.b) hv k) hd)
theorem handed {Z : Addr → Prop} (R : Rv Z σ v w) : handedOut w = pure w := by
  cases v with
  | loc i => obtain ⟨p, _, rfl⟩ := R; rfl
  | d d => cases d with
    | none => cases R; rfl
    | bool b => cases R; rfl
    | tup l => obtain ⟨_, _, rfl, _⟩ := R; rfl
    | lst l => obtain ⟨_, _, rfl, _⟩ := R; rfl
    | _ => obtain ⟨_, rfl⟩ := R; rfl
theorem asInst_el {c : Cx} {X : Addr → Prop} {ft : Ft} {h : Heap} {p : Addr × Addr} {z : Cell} {P : N → List (N × V) → Prop} (C : CellAt c X ft h p z) (e : asInst z P) :
    ∃ D l, z = .inst D l ∧ (attrsOf D ≠ [] ∧ ¬ X p.1 ∧ c.hb.get? p.1 = none) ∧ (∃ mA, InstD h p.1 (c.cad D) p.2 mA ∧ Fields X ft h D mA l) ∧ P D l := by
  cases z with
  | inst D l => exact ⟨D, l, rfl, C.1, C.2, e⟩
  | _ => exact e.elim
theorem InstD.inst {h : Heap} {x C dx : Addr} {mA : Str → Option Value} (J : InstD h x C dx mA) : h.Inst x C mA := by
  obtain ⟨o, i1, i2, i3, i4, i5, i6⟩ := J; exact ⟨o, i1, i2, i3, .inr ⟨_, i4, i5, i6⟩⟩
theorem op_attr {n : N} (g : G κ σ) (hn : noObj n = true) (R : Rv κ.Z σ v w) (e : kAttr n P v σ.S) (k : Kv κ σ P Q) : W κ (getAttr w n.str true) Q σ.s := by
  apply asA_el e R; intro i p hp e
  obtain ⟨z, hz, e⟩ := e.h
  obtain ⟨D, l, rfl, ⟨na, _⟩, ⟨mA, J, F⟩, e⟩ := asInst_el (g.inv.at' hp hz) e
  obtain ⟨u, hu, e⟩ := onS_el e
  obtain ⟨w', w1, w2⟩ := F.at_ n u hu
  obtain ⟨n', n1, n2⟩ := F.only n.str (by rw [w1]; exact Option.some_ne_none _)
  cases N.str_inj n1
  have K := g.ok.cls D na
  obtain ⟨nm, q, bs, sn, sub, col, dd, k0, k1, k2, k3, k5, hC⟩ := (K.at_.keeps g.inv.base).obj
  exact wpG_of (load_attr hC (K.at_.keeps g.inv.base).ns K.ga (K.no n n2) (lk_object hn) J.inst w1 (handed (σ := σ) w2) (k.tok g _ w2 e))
theorem get_inst {C m : N} {fn : Fn} {l : List (N × V)} {i : Nat} {p : Addr × Addr} {pl : Sem Bool} {Q : Value × List Value → Shared → Prop} (g : G κ σ) (hno : noObj m = true) (hm : look2 C m fnT = some fn) (hp : σ.ft[i]? = some p) (hS : σ.S[i]? = some (.inst C l))
    (k : ∀ f, FnOK κ.c f fn → Q (.ref f, [.ref p.1]) σ.s) : W κ (getMethod (.ref p.1) m.str pl) Q σ.s := by
  obtain ⟨⟨na, _⟩, mA, J, F⟩ := g.inv.at' hp hS
  have K := g.ok.cls C na
  obtain ⟨hk, fI, hfI, FI⟩ := K.meth m fn hm
  obtain ⟨oI, fdI, bI, hoI, hcI, hdI, _⟩ := FI.h
  obtain ⟨nm, q, bs, sn, sub, col, dd, k0, k1, k2, k3, k5, hC⟩ := (K.at_.keeps g.inv.base).obj
  have hsh : mA m.str = none := by
    cases e : mA m.str with
    | none => rfl
    | some v =>
      obtain ⟨n', n1, n2⟩ := F.only m.str (by rw [e]; exact Option.some_ne_none _)
      rw [← N.str_inj n1, hk] at n2; cases n2
  exact wpG_of (method_of hC (K.at_.keeps g.inv.base).ns K.ga K.gt hfI (g.inv.base _ _ hoI) hcI (lk_object hno) J.inst hsh (k _ FI))
end
end
section
def SAt (κ : Kx) (f : List E → Slots → EF) (o : BoolOp) (l : List E) (es : List PySem.Expr) : Prop := ∀ σ P Q, G κ σ → f l κ.r σ.S (kTest P) → Kb κ σ P Q → W κ (allTrue o es κ.env) Q σ.s
def SAv (κ : Kx) (f : List E → Slots → EF) (o : BoolOp) (l : List E) (es : List PySem.Expr) : Prop := ∀ pos σ P Q, G κ σ → f l κ.r σ.S P → Kv κ σ P Q → W κ (boolOp pos o (evalEach es κ.env)) Q σ.s
def Snd (e : E) : Prop := ∀ κ x, decE κ.nf e κ.env.scope x = true → SE κ e x ∧ ST κ e x
structure SndL (l : List E) : Prop where
  al : ∀ e ∈ l, Snd e
  sl : ∀ κ es, decL κ.nf l κ.env.scope es = true → SL κ l es
  ta : ∀ κ es, decL κ.nf l κ.env.scope es = true → SAt κ (wAnd (callF κ.n)) .And l es
  to : ∀ κ es, decL κ.nf l κ.env.scope es = true → SAt κ (wOr (callF κ.n)) .Or l es
  va : ∀ κ es, decL κ.nf l κ.env.scope es = true → es ≠ [] → SAv κ (wAnd (callF κ.n)) .And l es
  vo : ∀ κ es, decL κ.nf l κ.env.scope es = true → es ≠ [] → SAv κ (wOr (callF κ.n)) .Or l es
  sx : ∀ κ x, decX κ.nf l κ.env.scope x = true → SX κ l x
  sc : ∀ κ xs, decC κ.nf l κ.env.scope xs = true → (l = [] ∧ xs = []) ∨ ∃ e x, l = [e] ∧ xs = [x] ∧ ST κ e x
section
variable {κ : Kx} {σ : Sg} {P : PV} {PB : Bool → Store → Prop} {Q : Value → Shared → Prop} {QB : Bool → Shared → Prop} {e a b d : E} {l lo hi : List E} {x : PySem.Expr} {w : Value} {v : V}
theorem Kb.tr (k : Kb κ σ PB QB) : Kv κ σ (kTest PB) (fun w s => W κ (truthy w) QB s) := fun w v σ' x g R p => by
  apply asB_el p R; intro b p
  exact wpG_of (wpAny_truthy_bool (k b σ' x g p))
theorem st_of (h : SE κ e x) (hf : isTrue x κ.env (eval x κ.env) = (do let v ← eval x κ.env; standAt x.pos; holding [v] (truthy v))) : ST κ e x := fun σ P Q g ev k => by
  rw [hf]
  exact wpG_then (h σ _ _ g ev k.tr) fun _ _ h => wpG_sat (wpG_holding h)
theorem both (h : SE κ e x) (hf : isTrue x κ.env (eval x κ.env) = (do let v ← eval x κ.env; standAt x.pos; holding [v] (truthy v))) : SE κ e x ∧ ST κ e x := ⟨h, st_of h hf⟩
theorem s_any : Snd .any := fun _ _ _ => ⟨fun _ _ _ _ ev _ => ev.elim, fun _ _ _ _ ev _ => ev.elim⟩
theorem s_cst {d : D} : Snd (.cst d) := fun κ x e => by
  apply vCon_el e; intro k j p e
  refine both (fun σ P Q g ev h => ?_) rfl
  cases d with
  | none => apply dec_el e; exact wpG_pure (h.here (v := .d .none) g (Eq.refl Value.none) ev)
  | bool b => apply dec_el e; exact wpG_pure (h.here (v := .d (.bool b)) g (Eq.refl (Value.bool b)) ev)
  | int i => apply dec_el e; exact wpG_of (wpAny_Constant_int (h.int g ev))
  | str n => apply dec_el e; exact wpG_of (wpAny_Constant_str (h.tok (v := .d (.str n)) g _ ⟨_, rfl⟩ ev))
  | bytes l => apply dec_el e; exact wpG_of (wpAny_bind (wpAny_fresh (wpAny_pure (h.tok (v := .d (.bytes l)) g _ ⟨_, rfl⟩ ev))))
  | _ => cases e
theorem s_var {i : Nat} : Snd (.var i) := fun κ x e => by
  apply vName_el e; intro y p e
  obtain ⟨e1, e2⟩ := and_el e
  obtain ⟨e1, e3⟩ := and_el e1
  obtain ⟨e2, e4⟩ := and_el e2
  refine both (fun σ P Q g ev h => ?_) rfl
  obtain ⟨v, hs, ev⟩ := onS_el ev
  obtain ⟨w, a, R⟩ := g.locs i v y hs (beq_iff_eq.mp e1) e3
  refine wpG_of (wpAny_Name ?_ ((Bool.not_eq_true' _).mp e2))
  rcases a with ⟨k, m, hn, hm⟩ | ⟨k, a, ha, hcell⟩
  · exact wpAny_loadName_local g.ev.kind k hn hm (h.here g R ev)
  · rcases k with k | k
    · exact wpAny_loadName_cell g.ev.kind k ha hcell (h.here g R ev)
    · exact wpAny_loadName_free g.ev.kind k ha hcell (h.here g R ev) ((Bool.not_eq_true' _).mp e4)
theorem Inv.old {c : Cx} {Z : Addr → Prop} (I : Inv c Z σ) {d : D} (R : Rep noF c.hb d w) : Rd Z σ d w :=
  Rep.move (fun b o e _ => I.base b o e) (fun a _ e m => m.elim (fun m => by rw [I.mb a m] at e; cases e) fun m => by rw [I.zb a m] at e; cases e) d R
theorem s_gcon {n : N} : Snd (.gcon n) := fun κ x e => by
  apply glob_el e; intro p h1 h2
  refine both (fun σ P Q g ev h => ?_) rfl
  obtain ⟨d, hd, ev⟩ := onS_el ev
  obtain ⟨w, e1, R⟩ := g.ok.con n d hd
  exact name_global g e1 h1 h2 (h.here (v := .d d) g (g.inv.old R) ev)
theorem s_bin {o : Op} (ha : Snd a) (hb : Snd b) : Snd (.bin o a b) := fun κ x e => by
  apply vBin_el e; intro l p r _ e
  obtain ⟨e1, e⟩ := and_el e
  obtain ⟨e2, e3⟩ := and_el e
  apply dec_el e1
  exact both (fun σ P Q g ev k => g_BinOp ((ha κ l e2).1 σ _ _ g ev fun w v σ1 x1 g1 R1 ev => (hb κ r e3).1 σ1 _ _ g1 ev fun w' v' σ2 x2 g2 R2 ev => op_bin g2 (x2.rv R1) R2 ev ((k.pre x1).pre x2))) rfl
theorem s_cmp {o : Cp} (ha : Snd a) (hb : Snd b) : Snd (.cmp o a b) := fun κ x e => by
  apply vCmp_el e; intro l ps rs _ e
  apply on1_el e; intro p e
  apply on1_el e; intro r e
  obtain ⟨e1, e⟩ := and_el e
  obtain ⟨e1, hm⟩ := and_el e1
  obtain ⟨e2, e3⟩ := and_el e
  apply dec_el e1
  have hm := (Bool.not_eq_true' _).mp hm
  exact ⟨fun σ P Q g ev k => g_cmp hm ((ha κ l e2).1 σ _ _ g ev fun w v σ1 x1 g1 R1 ev => (hb κ r e3).1 σ1 _ _ g1 ev fun w' v' σ2 x2 g2 R2 ev => op_cmp g2 (x2.rv R1) R2 ev fun t tk q => ((k.pre x1).pre x2).bool g2 q),
    fun σ P Q g ev k => t_cmp hm ((ha κ l e2).1 σ _ _ g ev fun w v σ1 x1 g1 R1 ev => (hb κ r e3).1 σ1 _ _ g1 ev fun w' v' σ2 x2 g2 R2 ev => op_cmp g2 (x2.rv R1) R2 ev fun t tk q => ((k.tr.pre x1).pre x2).bool g2 q)⟩
theorem s_cmp2 {o o2 : Cp} (ha : Snd a) (hb : Snd b) (hd : Snd d) : Snd (.cmp2 a o b o2 d) := fun κ x e => by
  apply vCmp_el e; intro l ps rs _ e
  apply on2_el e; intro p q e
  apply on2_el e; intro r y e
  obtain ⟨e1, e⟩ := and_el e
  obtain ⟨e1, e5⟩ := and_el e1
  obtain ⟨e5, hm⟩ := and_el e5
  obtain ⟨e2, e⟩ := and_el e
  obtain ⟨e3, e4⟩ := and_el e
  apply dec_el e1; apply dec_el e5
  have hm := (Bool.not_eq_true' _).mp hm
  have main : ∀ {P : PV} {Q : Value → Shared → Prop} {Qf : Shared → Prop} {σ}, G κ σ → wE (callF κ.n) (.cmp2 a o b o2 d) κ.r σ.S P → Kv κ σ P Q → (∀ σ', Ext noF σ σ' → G κ σ' → P (.d (.bool false)) σ'.S → Qf σ'.s) → W κ (eval l κ.env) (fun a s₁ => W κ (eval r κ.env) (fun b s₂ => W κ (compareOp o.py a b) (fun c s₃ => ∃ t, c = .bool t ∧
      if t then W κ (eval y κ.env) (fun d s₄ => W κ (compareOp o2.py b d) Q s₄) s₃ else Qf s₃) s₂) s₁) σ.s := fun {P Q Qf σ} g ev k kf =>
    (ha κ l e2).1 σ _ _ g ev fun w v σ1 x1 g1 R1 ev => (hb κ r e3).1 σ1 _ _ g1 ev fun w' v' σ2 x2 g2 R2 ev => op_cmp g2 (x2.rv R1) R2 ev fun t tk ev => by
      have x3 := grow_ok (F := noF) g2.inv (h' := σ2.s.heap) (fun _ _ e => e) tk
      have g3 := g2.ext x3.1 x3.2
      have x13 := x1.trans (x2.trans x3.1)
      refine ⟨t, rfl, ?_⟩
      cases t with
      | false => exact kf _ x13 g3 ev
      | true => exact (hd κ y e4).1 _ _ _ g3 ev fun w3 v3 σ4 x4 g4 R4 ev => op_cmp g4 (x4.rv (x3.1.rv R2)) R4 ev fun t tk q => ((k.pre x13).pre x4).bool g4 q
  exact ⟨fun σ P Q g ev k => g_cmp2 hm (main g ev k fun σ' x g p => (k.pre x).bool g p), fun σ P Q g ev k => t_cmp2 hm (main g ev k.tr fun σ' x g p => k false σ' x g p)⟩
theorem s_inTop {n : N} (ha : Snd a) : Snd (.inTop a n) := fun κ x e => by
  apply vCmp_el e; intro l ps rs _ e
  apply on1_el e; intro p e
  apply on1_el e; intro r e
  obtain ⟨e1, e⟩ := and_el e
  obtain ⟨e1, hn⟩ := and_el e1
  obtain ⟨e2, e3⟩ := and_el e
  have hn : topKeys n ≠ [] := fun q => by rw [q] at hn; cases hn
  apply dec_el e1
  apply glob_el e2; intro pb h1 h2
  have main : ∀ {P : PV} {Q : Value → Shared → Prop} {σ}, G κ σ → wE (callF κ.n) (.inTop a n) κ.r σ.S P → Kv κ σ P Q → W κ (eval l κ.env) (fun a s₁ => W κ (eval (.Name n.str pb) κ.env) (fun b s₂ => W κ (compareOp .In a b) Q s₂) s₁) σ.s := fun {P Q σ} g ev k =>
    (ha κ l e3).1 σ _ _ g ev fun w v σ1 x1 g1 R1 ev => by
      obtain ⟨a, f, q1, q2, ⟨o, es, ep, ho, q⟩, q4⟩ := g1.ok.top n hn
      refine name_global g1 q1 h1 h2 ?_
      apply asS_el ev R1; intro m t ev
      refine wpG_of (wpAny_in_of (key_is κ.c.prog κ.c.w (.s m) _ ⟨t, rfl⟩) q2 ⟨o, es, ep, g1.inv.base _ _ ho, q⟩ ?_)
      rw [q4]
      exact (k.pre x1).bool g1 ev
  exact ⟨fun σ P Q g ev k => g_cmp rfl (main g ev k), fun σ P Q g ev k => t_cmp rfl (main g ev k.tr)⟩
theorem s_not (ha : Snd a) : Snd (.not a) := fun κ x e => by
  apply vUn_el e; intro u y _ e
  obtain ⟨e1, e2⟩ := and_el e
  apply dec_el e1
  exact ⟨fun σ P Q g ev k => g_UnaryOp ((ha κ y e2).1 σ _ _ g ev fun w v σ1 x1 g1 R1 ev => by
      apply asB_el ev R1; intro b ev
      exact wpG_of (not_value (wpAny_truthy_bool ((k.pre x1).bool g1 ev)))),
    fun σ P Q g ev k => t_not ((ha κ y e2).2 σ (fun b s => P (!b) s) _ g ev fun b σ1 x1 g1 ev => k _ σ1 x1 g1 ev)⟩
theorem s_neg (ha : Snd a) : Snd (.neg a) := fun κ x e => by
  apply vUn_el e; intro u y _ e
  obtain ⟨e1, e2⟩ := and_el e
  apply dec_el e1
  exact both (fun σ P Q g ev k => g_UnaryOp ((ha κ y e2).1 σ _ _ g ev fun w v σ1 x1 g1 R1 ev => by
      apply asI_el ev R1; intro i t ev
      exact wpG_of (PyProof.Rows.neg_int ((k.pre x1).int g1 ev)))) rfl
theorem s_ite (ha : Snd a) (hb : Snd b) (hd : Snd d) : Snd (.ite a b d) := fun κ x e => by
  apply vIf_el e; intro t y z _ e
  obtain ⟨e1, e⟩ := and_el e
  obtain ⟨e2, e3⟩ := and_el e
  refine ⟨fun σ P Q g ev k => g_ite ((ha κ t e1).2 σ (fun t s => Br t (wE (callF κ.n) b κ.r s P) (wE (callF κ.n) d κ.r s P)) _ g ev fun t σ1 x1 g1 ev => ?_),
    fun σ P Q g ev k => t_ite ((ha κ t e1).2 σ (fun t s => Br t (wE (callF κ.n) b κ.r s (kTest P)) (wE (callF κ.n) d κ.r s (kTest P))) _ g ev fun t σ1 x1 g1 ev => ?_)⟩
  · cases t with
    | true => exact (hb κ y e2).1 σ1 _ _ g1 ev (k.pre x1)
    | false => exact (hd κ z e3).1 σ1 _ _ g1 ev (k.pre x1)
  · cases t with
    | true => exact (hb κ y e2).2 σ1 _ _ g1 ev (k.pre x1)
    | false => exact (hd κ z e3).2 σ1 _ _ g1 ev (k.pre x1)
theorem s_and (hl : SndL l) : Snd (.and l) := fun κ x e => by
  apply vBool_el e; intro o vs _ e
  obtain ⟨e1, e⟩ := and_el e
  obtain ⟨e1, e2⟩ := and_el e1
  apply dec_el e1
  refine ⟨fun σ P Q g ev k => ?_, fun σ P Q g ev k => ?_⟩
  · rw [arm_eval_BoolOp]
    exact hl.va κ vs e (fun q => by rw [q] at e2; cases e2) _ σ P Q g ev k
  · rw [arm_isTrue_BoolOp]
    exact hl.ta κ vs e σ P Q g ev k
theorem s_or (hl : SndL l) : Snd (.or l) := fun κ x e => by
  apply vBool_el e; intro o vs _ e
  obtain ⟨e1, e⟩ := and_el e
  obtain ⟨e1, e2⟩ := and_el e1
  apply dec_el e1
  refine ⟨fun σ P Q g ev k => ?_, fun σ P Q g ev k => ?_⟩
  · rw [arm_eval_BoolOp]
    exact hl.vo κ vs e (fun q => by rw [q] at e2; cases e2) _ σ P Q g ev k
  · rw [arm_isTrue_BoolOp]
    exact hl.to κ vs e σ P Q g ev k
theorem s_tup (hl : SndL l) : Snd (.tup l) := fun κ x e => by
  apply vTup_el e; intro es j _ e
  obtain ⟨e1, e2⟩ := and_el e
  refine both (fun σ P Q g ev k => g_Tuple (hl.sl κ es e1 _ σ _ _ g ev fun ws vs σ1 x1 g1 R1 hz ev => ?_)) rfl
  obtain ⟨ds, hd, ev⟩ := onS_el ev
  exact wpG_of (wpAny_newTuple (new_tup (k.pre x1) g1 (dats_rep hd R1).all ev) (by rw [hz]; exact Nat.le_trans (of_decide_eq_true e2) (by decide)))
theorem s_lst (hl : SndL l) : Snd (.lst l) := fun κ x e => by
  apply vLst_el e; intro es _ e
  obtain ⟨e1, e2⟩ := and_el e
  refine both (fun σ P Q g ev k => g_List (hl.sl κ es e1 _ σ _ _ g ev fun ws vs σ1 x1 g1 R1 hz ev => ?_)) rfl
  obtain ⟨ds, hd, ev⟩ := onS_el ev
  exact wpG_of (wpAny_newList (new_list (k.pre x1) g1 (dats_rep hd R1).all ev) (by rw [hz]; exact Nat.le_trans (of_decide_eq_true e2) (by decide)))
theorem g_Attribute {s : Shared} {env : Env} {pos : Pos} {value : PySem.Expr} {attr : Str} {Q : Value → Shared → Prop} (hs : notSuper value = true) (h : W κ (eval value env) (fun o s => W κ (getAttr o attr true) Q s) s) : W κ (eval (.Attribute value attr pos) env) Q s := by
  unfold W at *
  rw [arm_eval_Attribute, base_eq hs]
  exact wpG_then h fun _ _ h => wpG_sat (wpG_hold h fun _ _ h => wpG_bind (wpG_of (wpAny_letTemporaryGo (wpG_pure h))))
theorem s_attr {n : N} (ha : Snd a) : Snd (.attr a n) := fun κ x e => by
  apply vAttr_el e; intro v t p e
  obtain ⟨e1, e2⟩ := and_el e
  obtain ⟨e1, e3⟩ := and_el e1
  obtain ⟨e3, e4⟩ := and_el e3
  apply dec_el e1
  exact both (fun σ P Q g ev k => g_Attribute e3 ((ha κ v e2).1 σ _ _ g ev fun w v σ1 x1 g1 R1 ev => op_attr g1 e4 R1 ev (k.pre x1))) rfl
theorem s_idx (ha : Snd a) (hb : Snd b) : Snd (.idx a b) := fun κ x e => by
  apply vSub_el e; intro v s _ e
  obtain ⟨e1, e⟩ := and_el e
  obtain ⟨e2, e3⟩ := and_el e
  exact both (fun σ P Q g ev k => g_sub ((ha κ v e2).1 σ _ _ g ev fun w v σ1 x1 g1 R1 ev => (hb κ s e3).1 σ1 _ _ g1 ev fun w' v' σ2 x2 g2 R2 ev => op_idx g2 (x2.rv R1) R2 ev (not_slice e1) ((k.pre x1).pre x2))) rfl
theorem s_slice (ha : Snd a) (hl : SndL lo) (hh : SndL hi) : Snd (.slice a lo hi) := fun κ x e => by
  apply vSub_el e; intro v s _ e
  apply vSlice_el e; intro pl ph pt _ e
  obtain ⟨e1, e⟩ := and_el e
  obtain ⟨e2, e⟩ := and_el e
  obtain ⟨e3, e4⟩ := and_el e
  cases pt with
  | some _ => cases e1
  | none =>
    refine both (fun σ P Q g ev k => g_sub ((ha κ v e2).1 σ _ _ g ev fun w v σ1 x1 g1 R1 ev => ?_)) rfl
    rw [arm_eval_Slice]
    refine wpG_then (hl.sx κ pl e3 σ1 _ _ g1 ev fun w2 v2 σ2 x2 g2 R2 ev => ?_) fun _ _ h => h
    refine wpG_hold (hh.sx κ ph e4 σ2 _ _ g2 ev fun w3 v3 σ3 x3 g3 R3 ev => ?_) fun _ _ h => h
    refine wpG_bind (wpG_holding (wpG_of (wpAny_pure ?_)))
    exact wpG_of (wpAny_newObj_type (op_slice g3 ((x2.trans x3).rv R1) (Rx.ext x3 R2) R3 ev (fun _ _ => rfl) (((k.pre x1).pre x2).pre x3)))
end
end
section
theorem fnK_eq : fnK = fnT.map fun p => (p.1, p.2.map fun q => (q.1, ())) := rfl
theorem look_map {α β : Type} (f : α → β) (n : N) (l : List (N × α)) : look n (l.map fun p => (p.1, f p.2)) = (look n l).map f := by
  induction l with
  | nil => rfl
  | cons p l ih =>
    show (bif Nat.beq p.1 n then some (f p.2) else look n (l.map _)) = Option.map f (bif Nat.beq p.1 n then some p.2 else look n l)
    cases Nat.beq p.1 n with
    | true => rfl
    | false => exact ih
theorem ifT_el {b : Bool} {P : Prop} (h : ifT b P) : b = true ∧ P := by
  cases b with
  | true => exact ⟨rfl, h⟩
  | false => exact h.elim
theorem known_el {c m : N} (h : known c m = true) : ∃ fn, look2 c m fnT = some fn := by
  unfold known look2 at h
  rw [fnK_eq, look_map] at h
  unfold look2
  cases e : look c fnT with
  | none => rw [e] at h; cases h
  | some l =>
    rw [e] at h
    cases e2 : look m l with
    | none =>
      have h : (look m (l.map fun q => (q.1, ()))).isSome = true := h
      rw [look_map (fun _ => ()), e2] at h; cases h
    | some fn => exact ⟨fn, e2⟩
section
variable {κ : Kx} {σ : Sg} {P : PV} {PB : Bool → Store → Prop} {Q : Value → Shared → Prop} {QB : Bool → Shared → Prop} {e a b d : E} {l lo hi : List E} {x : PySem.Expr} {w : Value} {v : V} {h' : Heap}
theorem Kv.cell {p : Addr × Addr} {x : Cell} {t : Nat} (k : Kv κ σ P Q) (g : G κ σ) (kk : ∀ b o, σ.s.heap.get? b = some o → h'.get? b = some o) (f : σ.s.heap.get? p.2 = none)
    (C : ∀ X, (∀ a o, σ.s.heap.get? a = some o → X a → Xs σ.ft κ.Z a) → (∀ a, X a → a = p.2 ∨ ∃ o, σ.s.heap.get? a = some o) → Pre σ.ft (σ.ft ++ [p]) → CellAt κ.c X (σ.ft ++ [p]) h' p x) (sys : p.1 = p.2 → p.2 ≠ sysModules) (ev : P (.loc σ.S.length) (σ.S ++ [x])) :
    Q (.ref p.1) { σ.s with heap := h', toks := t } :=
  let q := add_ok g.inv kk f t C sys
  k _ (.loc σ.S.length) ⟨_, _, _⟩ q.1 (g.ext q.1 q.2.1) ⟨p, q.2.2, rfl⟩ ev
theorem Kv.list {us : List Value} {x : Cell} (k : Kv κ σ P Q) (g : G κ σ) (C : ∀ X h' ft, (∀ b o, σ.s.heap.get? b = some o → h'.get? b = some o) → (∀ a o, σ.s.heap.get? a = some o → X a → Xs σ.ft κ.Z a) → Pre σ.ft ft → h'.PlainList σ.s.heap.objs.size (Array.mk us) → CellAt κ.c X ft h' (σ.s.heap.objs.size, σ.s.heap.objs.size) x)
    (ev : P (.loc σ.S.length) (σ.S ++ [x])) : Q (.ref σ.s.heap.objs.size) { σ.s with heap := σ.s.heap.push { cls := .type "list", data := .seq (Array.mk us) } } :=
  k.cell (p := (σ.s.heap.objs.size, σ.s.heap.objs.size)) (x := x) (t := σ.s.toks) g (push_kk _) (Heap.get?_none_of_le (Nat.le_refl _)) (fun X b _ pr => C X _ _ (push_kk _) b pr ⟨0, Heap.get?_push_size _ rfl⟩) (fun _ => g.inv.low) ev
theorem s_glst (hl : SndL l) : Snd (.glst l) := fun κ x e => by
  apply vLst_el e; intro es _ e
  obtain ⟨e1, e2⟩ := and_el e
  refine both (fun σ P Q g ev k => g_List (hl.sl κ es e1 _ σ _ _ g ev fun ws vs σ1 x1 g1 R1 hz ev => ?_)) rfl
  exact wpG_of (wpAny_newList ((k.pre x1).list (x := .lst vs) g1 (fun X h' ft kk b pr p => ⟨rfl, ws, p.isList, RepVs.move (fun b o e _ => kk b o e) b pr R1⟩) ev) (by rw [hz]; exact Nat.le_trans (of_decide_eq_true e2) (by decide)))
theorem s_log : Snd .log := fun κ x e => by
  apply vLst_el e; intro es _ e
  cases List.isEmpty_iff.mp e
  exact both (fun σ P Q g ev k => wpG_of (wpAny_List (spliced_none ⟨Nat.zero_le _, k.list (us := []) (x := .log 0) g (fun X h' ft kk b pr p => ⟨rfl, _, p, rfl⟩) ev⟩))) rfl
theorem s_dic0 : Snd .dic0 := fun κ x e => by
  apply vDic_el e; intro ps vs _ e
  obtain ⟨e1, e2⟩ := and_el e
  cases List.isEmpty_iff.mp e1
  cases List.isEmpty_iff.mp e2
  refine both (fun σ P Q g ev k => wpG_of (wpAny_Dict_empty ?_)) rfl
  exact k.cell (p := (σ.s.heap.objs.size, σ.s.heap.objs.size)) (x := .dict []) (t := σ.s.toks) g (push_kk _) (Heap.get?_none_of_le (Nat.le_refl _)) (fun X b _ pr => ⟨rfl, [], Heap.DictOf.new _, rfl⟩) (fun _ => g.inv.low) ev
theorem op_call {C f : N} {fn : Fn} {a : Addr} {vs : List V} {ws : List Value} (g : G κ σ) (hf : look2 C f fnT = some fn) (F : FnOK κ.c a fn) (R : Rvs κ.Z σ vs ws) (ev : Call (callF κ.n) C f vs σ.S P) (k : Kv κ σ P Q) : W κ (call (.ref a) ws) Q σ.s :=
  g.call C f fn a hf F κ.A κ.Z σ vs ws P Q ⟨g.bud.hd, by have := g.bud.dp; omega, by have := g.bud.un; omega⟩ g.inv R ev.h fun w v σ' x I R p => k w v σ' x (g.ext x I) R p
theorem s_call {f : N} (hl : SndL l) : Snd (.call f l) := fun κ x e => by
  apply vCall_el e; intro h es kw p e
  obtain ⟨e1, e⟩ := and_el e
  obtain ⟨e2, e3⟩ := and_el e
  cases List.isEmpty_iff.mp (and_el e1).1
  apply glob_el e2; intro pb h1 h2
  refine both (fun σ P Q g ev k => ?_) rfl
  obtain ⟨hk, ev⟩ := ifT_el ev
  obtain ⟨fn, hf⟩ := known_el hk
  obtain ⟨a, ha, F⟩ := g.ok.fn f fn hf
  obtain ⟨o, fd, b, ho, _, hd, _⟩ := F.h
  exact g_Call_Name (name_global g ha h1 h2 (g_callWith ((backTo_any _ _).trans (decL_star e3)) (hl.sl κ es e3 _ σ _ _ g ev fun ws vs σ1 x1 g1 R1 _ ev => ⟨keeps_fn (g1.inv.base _ _ ho) hd, op_call g1 hf F R1 ev (k.pre x1)⟩)))
theorem s_bi {b : Bi} (hl : SndL l) : Snd (.bi b l) := fun κ x e => by
  apply vCall_el e; intro h es kw p e
  obtain ⟨e1, e⟩ := and_el e
  obtain ⟨e2, e3⟩ := and_el e
  cases List.isEmpty_iff.mp (and_el e1).1
  apply glob_el e2; intro pb h1 h2
  exact both (fun σ P Q g ev k => g_Call_Name (name_builtin g (g.ok.gb b) (g.ok.bb b) h1 h2 (g_callWith ((backTo_any _ _).trans (decL_star e3)) (hl.sl κ es e3 _ σ _ _ g ev fun ws vs σ1 x1 g1 R1 _ ev => ⟨keeps_machine (fun a q => by cases b <;> cases q), op_bi g1 R1 ev (k.pre x1)⟩)))) rfl
theorem snd_nil : SndL [] where
  al _ m := nomatch m
  sl κ es e pos σ P Q g ev k := by
    cases List.isEmpty_iff.mp e
    exact wpG_of (spliced_none (k [] [] σ (Ext.refl ..) g rfl rfl ev))
  ta κ es e σ P Q g ev k := by
    cases List.isEmpty_iff.mp e
    exact wpG_of (wpAny_allTrue_And_nil (k true σ (Ext.refl ..) g ev))
  to κ es e σ P Q g ev k := by
    cases List.isEmpty_iff.mp e
    exact wpG_of (wpAny_allTrue_Or_nil (k false σ (Ext.refl ..) g ev))
  va κ es e n := absurd (List.isEmpty_iff.mp e) n
  vo κ es e n := absurd (List.isEmpty_iff.mp e) n
  sx κ x e σ P Q g ev k := by
    cases Option.isNone_iff_eq_none.mp e
    exact wpG_of (wpAny_pure (k _ [] σ (Ext.refl ..) g (Eq.refl Value.none) ev))
  sc κ xs e := .inl ⟨rfl, List.isEmpty_iff.mp e⟩
theorem decL_cons {nf : Nat → Option Str} {sc : Scope} {es : List PySem.Expr} {C : List PySem.Expr → Prop} (h : decL nf (e :: l) sc es = true) (k : ∀ x r, noStar x = true → decE nf e sc x = true → decL nf l sc r = true → C (x :: r)) : C es := by
  cases es with
  | nil => cases h
  | cons x r => obtain ⟨h1, h⟩ := and_el h; obtain ⟨h2, h3⟩ := and_el h; exact k x r h1 h2 h3
theorem t_all {M : Model} {A : Around} {s : Shared} {env : Env} {o : BoolOp} {rest : List PySem.Expr} {QB : Bool → Shared → Prop} (h : wpG M A (isTrue x env (eval x env)) (fun b s₁ => if (match o with | .And => b | .Or => !b) = true then wpG M A (allTrue o rest env) QB s₁ else QB b s₁) s) : wpG M A (allTrue o (x :: rest) env) QB s := by
  rw [arm_allTrue_cons]
  refine wpG_then h fun b s₁ h₁ => ?_
  cases o <;> cases b <;> first | exact h₁ | exact wpG_pure h₁
theorem v_all {M : Model} {A : Around} {s : Shared} {pos : Pos} {o : BoolOp} {t u : Sem Value} {rest : List (Sem Value)} {Q : Value → Shared → Prop} (h : wpG M A t (fun v s₁ => ∃ b, v = .bool b ∧ if (match o with | .And => b | .Or => !b) = true then wpG M A (boolOp pos o (u :: rest)) Q s₁ else Q (.bool b) s₁) s) : wpG M A (boolOp pos o (t :: u :: rest)) Q s := by
  unfold boolOp
  refine wpG_then h fun v s₁ h₁ => wpG_sat ?_
  obtain ⟨b, rfl, h₁⟩ := h₁
  refine wpG_bind (wpG_holding (wpG_of (wpAny_truthy_bool ?_)))
  cases o <;> cases b <;> first | exact h₁ | exact wpG_pure h₁
theorem a_one (h : SE κ e x) (g : G κ σ) (ev : wE (callF κ.n) e κ.r σ.S (kAnd (wAnd (callF κ.n) [] κ.r) P)) (k : Kv κ σ P Q) : W κ (eval x κ.env) Q σ.s :=
  h σ _ _ g ev fun w v σ1 x1 g1 R1 ev => by
    apply asB_el ev R1; intro b ev
    cases b <;> exact (k.pre x1).bool g1 ev
theorem o_one (h : SE κ e x) (g : G κ σ) (ev : wE (callF κ.n) e κ.r σ.S (kOr (wOr (callF κ.n) [] κ.r) P)) (k : Kv κ σ P Q) : W κ (eval x κ.env) Q σ.s :=
  h σ _ _ g ev fun w v σ1 x1 g1 R1 ev => by
    apply asB_el ev R1; intro b ev
    cases b <;> exact (k.pre x1).bool g1 ev
theorem snd_cons (he : Snd e) (hl : SndL l) : SndL (e :: l) where
  al _ m := (List.mem_cons.mp m).elim (fun q => q ▸ he) (hl.al _)
  sl κ es h pos σ P Q g ev k := by
    revert k; apply decL_cons h; intro x r h1 h2 h3 k
    rw [star_cons h1]
    exact g_spl ((he κ x h2).1 σ _ _ g ev fun w v σ1 x1 g1 R1 ev => hl.sl κ r h3 pos σ1 _ _ g1 ev fun ws vs σ2 x2 g2 R2 hz ev => k _ (v :: vs) σ2 (x1.trans x2) g2 ⟨_, _, rfl, x2.rv R1, R2⟩ (congrArg (· + 1) hz) ev)
  ta κ es h σ P Q g ev k := by
    apply decL_cons h; intro x r h1 h2 h3
    refine t_all ((he κ x h2).2 σ (fun b s => Br b (wAnd (callF κ.n) l κ.r s (kTest P)) (P false s)) _ g ev fun b σ1 x1 g1 ev => ?_)
    cases b with
    | true => exact hl.ta κ r h3 σ1 P Q g1 ev (k.pre x1)
    | false => exact k false σ1 x1 g1 ev
  to κ es h σ P Q g ev k := by
    apply decL_cons h; intro x r h1 h2 h3
    refine t_all ((he κ x h2).2 σ (fun b s => Br b (P true s) (wOr (callF κ.n) l κ.r s (kTest P))) _ g ev fun b σ1 x1 g1 ev => ?_)
    cases b with
    | false => exact hl.to κ r h3 σ1 P Q g1 ev (k.pre x1)
    | true => exact k true σ1 x1 g1 ev
  va κ es h _ pos σ P Q g ev k := by
    apply decL_cons h; intro x r h1 h2 h3
    cases r with
    | nil =>
      cases l with
      | nil => exact a_one (he κ x h2).1 g ev k
      | cons => cases h3
    | cons y r =>
        refine v_all ((he κ x h2).1 σ _ _ g ev fun w v σ1 x1 g1 R1 ev => ?_)
        apply asB_el ev R1; intro b ev
        refine ⟨b, rfl, ?_⟩
        cases b with
        | true => exact hl.va κ (y :: r) h3 (List.cons_ne_nil _ _) pos σ1 P Q g1 ev (k.pre x1)
        | false => exact (k.pre x1).bool g1 ev
  vo κ es h _ pos σ P Q g ev k := by
    apply decL_cons h; intro x r h1 h2 h3
    cases r with
    | nil =>
      cases l with
      | nil => exact o_one (he κ x h2).1 g ev k
      | cons => cases h3
    | cons y r =>
        refine v_all ((he κ x h2).1 σ _ _ g ev fun w v σ1 x1 g1 R1 ev => ?_)
        apply asB_el ev R1; intro b ev
        refine ⟨b, rfl, ?_⟩
        cases b with
        | false => exact hl.vo κ (y :: r) h3 (List.cons_ne_nil _ _) pos σ1 P Q g1 ev (k.pre x1)
        | true => exact (k.pre x1).bool g1 ev
  sx κ x h σ P Q g ev k := by
    obtain ⟨h1, h2⟩ := and_el h
    cases x with
    | none => cases h2
    | some x =>
      cases List.isEmpty_iff.mp h1
      exact (he κ x h2).1 σ _ _ g ev fun w v σ1 x1 g1 R1 ev => k w [v] σ1 x1 g1 R1 ev
  sc κ xs h := by
    obtain ⟨h1, h2⟩ := and_el h
    cases List.isEmpty_iff.mp h1
    apply on1_el (C := fun xs => _ ∨ ∃ e x, [_] = [e] ∧ xs = [x] ∧ ST κ e x) h2; intro x h2
    exact .inr ⟨e, x, rfl, rfl, (he κ x h2).2⟩
end
end
section
theorem without_rep {X : Addr → Prop} {ft : Ft} {h : Heap} (k : Key) {l : List (Key × V)} {kvs : List (Key × Value)} (r : RepKs X ft h l kvs) (nd : (kvs.map (·.1)).Nodup) : RepKs X ft h (delK k l) (without kvs k) := by
  induction l generalizing kvs with
  | nil => cases r; exact rfl
  | cons p l ih =>
    obtain ⟨⟨b, w⟩, ws, rfl, ⟨e, R⟩, r⟩ := r
    obtain ⟨a, v⟩ := p
    obtain rfl : a = b := e
    rw [List.map_cons, List.nodup_cons] at nd
    unfold delK without
    by_cases e : a = k
    · cases e
      rw [if_pos rfl, List.filter_cons_of_neg (by simp), show List.filter (fun kv => decide (kv.1 ≠ k)) ws = without ws k from rfl, without_of_not_mem ws k nd.1]
      exact r
    · rw [if_neg e, List.filter_cons_of_pos (by simpa using e)]
      exact ⟨_, _, rfl, ⟨rfl, R⟩, ih r nd.2⟩
theorem DictOf.nodupk {c : Cx} {h : Heap} {knd : KeyKind c.prog c.w Key} {d : Addr} {kvs : List (Key × Value)} (D : h.DictOf knd d kvs) : (kvs.map (·.1)).Nodup := by
  obtain ⟨_, _, _, _, _, _, _, _, q⟩ := D; exact q
section
variable {κ : Kx} {σ : Sg} {P : PV} {Q : Value → Shared → Prop} {a : E} {l : List E} {x : PySem.Expr} {w : Value} {v : V} {vs : List V} {ws : List Value} {p : Addr × Addr} {i : Nat}
theorem Kv.put {y z : Cell} {h' : Heap} {t : Nat} (k : Kv κ σ P Q) (g : G κ σ) (hp : σ.ft[i]? = some p) (hx : σ.S[i]? = some y) (hl : ∀ l, y ≠ .lock l) (kb : ∀ b o, b ≠ p.2 → σ.s.heap.get? b = some o → h'.get? b = some o) (C : CellAt κ.c (Xs σ.ft κ.Z) σ.ft h' p z)
    (R : Rv κ.Z (σ.put i z h' t) v w) (ev : P v (σ.S.set i z)) : Q w { σ.s with heap := h', toks := t } :=
  let q := put_ok g.inv hp kb hx hl C t
  k w v (σ.put i z h' t) q.1 (g.ext q.1 q.2) R ev
theorem put_kp {Z : Addr → Prop} {h' : Heap} (hp : σ.ft[i]? = some p) (kb : ∀ b o, b ≠ p.2 → σ.s.heap.get? b = some o → h'.get? b = some o) : Kp (Xs σ.ft Z) σ.s.heap h' := fun b o e n => kb b o (fun q => n (.inl (q ▸ ms_mem hp))) e
theorem same_kb {h h' : Heap} {a : Addr} (sb : Heap.SameBut a h h') (b : Addr) (o : Obj) (n : b ≠ a) (e : h.get? b = some o) : h'.get? b = some o := (sb.2 b n).trans e
theorem op_log (g : G κ σ) (hp : σ.ft[i]? = some p) (R : Rvs κ.Z σ vs ws) (ev : kML i P vs σ.S) (k : Kv κ σ P Q) : W κ (call (.builtin "list.append") (.ref p.1 :: ws)) Q σ.s := by
  obtain ⟨z, hz, e⟩ := ev.h
  cases z with
  | log n =>
    apply one_el (C := fun ws => W κ (call (.builtin "list.append") (.ref p.1 :: ws)) Q σ.s) e R; intro v w e R
    obtain ⟨pe, us, p1, hs⟩ := g.inv.at' hp hz
    rw [pe]
    refine wpG_of (wpAny_list_append_plain p1 (fun h' P' sb => ?_) (by have h1 := e.1; have : lim = 1000000 := rfl; rw [sizeLine_eq]; omega))
    exact k.put (v := .d .none) (z := .log (n + 1)) (t := σ.s.toks) g hp hz (fun l q => nomatch q) (same_kb sb) ⟨pe, _, P', by simp [hs]⟩ (Eq.refl Value.none) e.2
  | _ => exact e.elim
theorem op_dic {m : N} (g : G κ σ) (hp : σ.ft[i]? = some p) (R : Rvs κ.Z σ vs ws) (ev : kMK i m P vs σ.S) (k : Kv κ σ P Q) : W κ (call (.builtin (bif Nat.beq m N.x_get then "dict.get" else "dict.pop")) (.ref p.1 :: ws)) Q σ.s := by
  obtain ⟨z, hz, e⟩ := ev.h
  cases z with
  | dict kv =>
    obtain ⟨pe, kvs, D, r⟩ := g.inv.at' hp hz
    have ns := g.inv.nsys pe hp
    rw [pe]
    unfold kMK2 dicP at e
    cases q : Nat.beq m N.x_get with
    | true =>
      rw [q] at e
      cases vs with
      | nil => exact e.elim
      | cons v vs =>
        obtain ⟨w, ws, rfl, R1, R⟩ := R
        apply asI_el (C := fun w => W κ (call (.builtin "dict.get") (.ref p.2 :: w :: ws)) Q σ.s) e R1; intro key t e
        have hk := key_is κ.c.prog κ.c.w (.i key) (.int key t) ⟨t, rfl⟩
        cases vs with
        | nil =>
          cases R
          refine wpG_of (call_meetsIn PySem.F.slot_dict_get D.typeIs PySem.F.entry_dict_get (PySem.F.args_dict_get_2 _ _) (meets_dict_get (mixKind κ.c.prog κ.c.w) p.2 hk ns) ⟨_, D.mapOf, ?_⟩)
          rcases lookK_val (.i key) r with ⟨a, b⟩ | ⟨v', w', a, b, Rw⟩
          · rw [b]; rw [a] at e; exact k.tok (v := .d .none) g _ (Eq.refl Value.none) e
          · rw [b]; rw [a] at e; exact k.tok g _ Rw e
        | cons u vs =>
          obtain ⟨w2, ws, rfl, R2, R⟩ := R
          cases vs with
          | cons => exact e.elim
          | nil =>
            cases R
            refine wpG_of (call_meetsIn PySem.F.slot_dict_get D.typeIs PySem.F.entry_dict_get (PySem.F.args_dict_get_3 _ _ _) (meets_dict_get_default (mixKind κ.c.prog κ.c.w) p.2 hk ns _) ⟨_, D.mapOf, ?_⟩)
            rcases lookK_val (.i key) r with ⟨a, b⟩ | ⟨v', w', a, b, Rw⟩
            · rw [b]; rw [a] at e; exact k.tok g _ R2 e
            · rw [b]; rw [a] at e; exact k.tok g _ Rw e
    | false =>
      rw [q] at e
      obtain ⟨_, e⟩ := ifT_el e
      apply one_el (C := fun ws => W κ (call (.builtin "dict.pop") (.ref p.2 :: ws)) Q σ.s) e R; intro v w e R
      apply asI_el (C := fun w => W κ (call (.builtin "dict.pop") [.ref p.2, w]) Q σ.s) e R; intro key t e
      have hk := key_is κ.c.prog κ.c.w (.i key) (.int key t) ⟨t, rfl⟩
      obtain ⟨v', hv, e2⟩ := onS_el e.2
      rcases lookK_val (.i key) r with ⟨a, b⟩ | ⟨v'', w', a, b, Rw⟩
      · rw [a] at hv; cases hv
      · cases a.symm.trans hv
        refine wpG_of (call_meetsIn PySem.F.slot_dict_pop D.typeIs PySem.F.entry_dict_pop (PySem.F.args_dict_pop_2 _ _) (meets_dict_pop_there (mixKind κ.c.prog κ.c.w) p.2 hk [] (.inl rfl) rfl) ⟨kvs, w', D, by rw [r.length]; exact Nat.le_trans e.1 (by decide), b, fun h' D' sb => ?_⟩)
        have kk := put_kp (Z := κ.Z) hp (same_kb sb)
        exact k.put (z := .dict (delK (.i key) kv)) g hp hz (fun l q => nomatch q) (same_kb sb) ⟨pe, _, D', RepKs.move kk (fun _ _ _ m => m) (fun _ _ e => e) (without_rep (.i key) r (DictOf.nodupk D))⟩ (RepV.move kk (fun _ _ _ m => m) (fun _ _ e => e) _ Rw) e2
  | _ => exact e.elim
theorem s_meth {m : N} (ha : Snd a) (hl : SndL l) : Snd (.meth a m l) := fun κ x e => by
  apply vCall_el e; intro h es kw p e
  obtain ⟨e1, e⟩ := and_el e
  obtain ⟨ek, el⟩ := and_el e1
  apply vAttr_el e; intro o t ap e
  obtain ⟨e1, e⟩ := and_el e
  obtain ⟨e2, e3⟩ := and_el e1
  obtain ⟨e3, e4⟩ := and_el e3
  obtain ⟨e4, e5⟩ := and_el e4
  obtain ⟨e6, e7⟩ := and_el e
  apply dec_el e3
  cases List.isEmpty_iff.mp ek
  have star := decL_star (env := κ.env) e7
  have star' := (backTo_any p (starEach es κ.env)).trans star
  refine both (fun σ P Q g ev k => g_meth e4 star (of_decide_eq_true el) e2 ((ha κ o e6).1 σ _ _ g ev fun w y σ1 x1 g1 R1 ev pl => ?_)) rfl
  have k := k.pre x1
  have args : ∀ {P' : PL} {f : Value} {w : Value}, (∀ a, f ≠ .ref a) → wL (callF κ.n) l κ.r σ1.S P' → (∀ ws vs σ2, Ext noF σ1 σ2 → G κ σ2 → Rvs κ.Z σ2 vs ws → P' vs σ2.S → W κ (call f (w :: ws)) Q σ2.s) → W κ (callWith p f [w] (backTo p (starEach es κ.env)) []) Q σ1.s := fun hf ev k =>
    g_callWith star' (hl.sl κ es e7 _ σ1 _ _ g1 ev fun ws vs σ2 x2 g2 R2 _ ev => ⟨keeps_machine hf, k ws vs σ2 x2 g2 R2 ev⟩)
  cases y with
  | d y => cases y with
    | bytes b => cases b with
      | nil =>
        obtain ⟨t0, rfl⟩ := R1
        obtain ⟨hm, ev⟩ := ifT_el ev
        cases Nat.eq_of_beq_eq_true hm
        refine wpG_of (getMethod_builtin (typeIs_bytes _ _ _) F.plainAttrs_bytes F.slot_bytes_join (by kernel_rfl) (fun a q => nomatch q) ?_)
        refine args (fun a q => nomatch q) ev fun ws vs σ2 x2 g2 R2 ev => ?_
        apply one_el (C := fun ws => W κ (call (.builtin "bytes.join") (_ :: ws)) Q σ2.s) ev R2; intro v w ev R
        apply asL_el (C := fun w => W κ (call (.builtin "bytes.join") [_, w]) Q σ2.s) ev R; intro xs ad us ev p2 _ r
        obtain ⟨b, hb, ev⟩ := onS_el ev
        obtain ⟨bs, h1, rfl⟩ := joined_by r hb
        exact wpG_of (call_join p2.isList h1 ev.1.1 (by rw [r.length]; exact ev.1.2) fun t z => (k.pre x2).tok (v := .d (.bytes bs.flatten)) g2 z ⟨_, rfl⟩ ev.2)
      | cons => exact ev.elim
    | tup xs =>
      obtain ⟨ad, us, rfl, pt, _, r⟩ := R1
      obtain ⟨hm, ev⟩ := ifT_el ev
      cases Nat.eq_of_beq_eq_true hm
      obtain ⟨z, hz⟩ := id pt
      refine wpG_of (getMethod_builtin pt.isTup.typeIs PySem.F.plainAttrs_tuple PySem.F.slot_tuple_index (by kernel_rfl) (fun a q => by cases q; exact ⟨_, hz, rfl⟩) ?_)
      refine args (fun a q => nomatch q) ev fun ws vs σ2 x2 g2 R2 ev => ?_
      apply one_el (C := fun ws => W κ (call (.builtin "tuple.index") (_ :: ws)) Q σ2.s) ev R2; intro v w ev R
      apply asI_el (C := fun w => W κ (call (.builtin "tuple.index") [_, w]) Q σ2.s) ev R; intro j t ev
      obtain ⟨n, hn, ev⟩ := onS_el ev
      obtain ⟨ad', us', q, pt', _, r'⟩ := x2.rv (v := .d (.tup xs)) (Z := κ.Z) ⟨ad, us, rfl, pt, ‹_›, r⟩
      cases q
      obtain ⟨h1, h2⟩ := placeOf_ints r'.all hn
      exact wpG_of (call_index pt'.isTup h1 h2 fun t z => (k.pre x2).int g2 ev)
    | _ => exact ev.elim
  | loc i =>
    obtain ⟨p, hp, rfl⟩ := R1
    obtain ⟨z, hz, ev⟩ := ev.h
    cases z with
    | log n =>
      obtain ⟨hm, ev⟩ := ifT_el ev
      cases Nat.eq_of_beq_eq_true hm
      obtain ⟨pe, us, ⟨y, p1⟩, hs⟩ := g1.inv.at' hp hz
      have p1' : σ1.s.heap.PlainList p.2 us := ⟨y, p1⟩
      refine wpG_of (getMethod_builtin (pe ▸ p1'.isList.typeIs) PySem.F.plainAttrs_list PySem.F.slot_list_append (by kernel_rfl) (fun a q => by cases q; exact ⟨_, pe ▸ p1, rfl⟩) ?_)
      exact args (fun a q => nomatch q) ev fun ws vs σ2 x2 g2 R2 ev => op_log g2 (x2.pre _ _ hp) R2 ev (k.pre x2)
    | dict kv =>
      obtain ⟨hm, ev⟩ := ifT_el ev
      obtain ⟨pe, kvs, D, r⟩ := g1.inv.at' hp hz
      have fin : W κ (callWith _ (.builtin (bif Nat.beq m N.x_get then "dict.get" else "dict.pop")) [.ref p.1] (backTo _ (starEach es κ.env)) []) Q σ1.s := args (fun a q => nomatch q) ev fun ws vs σ2 x2 g2 R2 ev => op_dic g2 (x2.pre _ _ hp) R2 ev (k.pre x2)
      cases q : Nat.beq m N.x_get with
      | true =>
        cases Nat.eq_of_beq_eq_true q
        exact wpG_of (getMethod_builtin (pe ▸ D.typeIs) PySem.F.plainAttrs_dict PySem.F.slot_dict_get (by kernel_rfl) (pe ▸ D.mapOf.noDict) fin)
      | false =>
        rw [q] at hm fin
        cases Nat.eq_of_beq_eq_true (show Nat.beq m N.x_pop = true from hm)
        exact wpG_of (getMethod_builtin (pe ▸ D.typeIs) PySem.F.plainAttrs_dict PySem.F.slot_dict_pop (by kernel_rfl) (pe ▸ D.mapOf.noDict) fin)
    | inst C fl =>
      obtain ⟨hm, ev⟩ := ifT_el ev
      obtain ⟨fn, hf⟩ := known_el hm
      refine get_inst g1 e5 hf hp hz fun f F => ?_
      obtain ⟨o, fd, b, ho, _, hd, _⟩ := F.h
      exact g_callWith star' (hl.sl κ es e7 _ σ1 _ _ g1 ev fun ws vs σ2 x2 g2 R2 _ ev => ⟨keeps_fn (g2.inv.base _ _ ho) hd, op_call (vs := .loc i :: vs) g2 hf F ⟨_, _, rfl, ⟨p, x2.pre _ _ hp, rfl⟩, R2⟩ ev (k.pre x2)⟩)
    | _ => exact ev.elim
end
end
section
section
variable {prog : Program} {w : World} {A : Around} {s : Shared} {R : Flow → Shared → Prop}
theorem codeG_builtin {id : String} {args : Args} {b : Builtin} (ok : okCode (.builtin id args) = true) (hb : entryFor table id = some b)
    (h : wpG (model prog w) (A.under (.builtin id args)) (b args) (after (model prog w) A R fun _ _ => False) s) : codeG (model prog w) A (.builtin id args) R s := by
  refine codeG_of_tree ok ?_
  show wpG _ _ (match entryFor table id with | some b => b args | none => unsupported ((withoutEnding? id "#data").getD id)) _ s
  rw [hb]; exact h
theorem wpG_iff {α : Type} {M : Model} {c : Bool} {a b : Sem α} {Q : α → Shared → Prop} (hc : c = false) (h : wpG M A b Q s) : wpG M A (if c = true then a else b) Q s := by rw [hc]; exact h
theorem wpG_ift {α : Type} {M : Model} {c : Bool} {a b : Sem α} {Q : α → Shared → Prop} (hc : c = true) (h : wpG M A a Q s) : wpG M A (if c = true then a else b) Q s := by rw [hc]; exact h
end
section
variable {prog : Program} {w : World} {A : Around} {h : Heap} {g : Array GenState} {d : Drawn} {t : Nat} {os : OsState}
variable {nm q : Str} {C N : Addr} {bs : List Value} {sn : List Str} {sub : List Value} {col : Option Bool} {dd : Option Addr} {k0 k1 k2 k3 k5 : Option Value}
theorem g_new {mN : Str → Option Value} {rest : List Value} {fI : Addr} {oI : Obj} {Q : Value → Shared → Prop}
    (hC : h.get? C = some (excClassObj nm q C N bs [.type "object"] true sn sub false col dd k0 k1 k2 k3 k5 "object.__new__")) (hn : h.Ns N mN) (hi : mN "__init__" = some (.ref fI))
    (hfI : h.get? fI = some oI) (hfc : oI.cls = .type "function")
    (hq : ∀ h' x dx, Heap.MadeObj h h' x dx C →
      wpG (model prog w) (A.under (.builtin "type.__call__" ⟨.ref C :: rest, []⟩)) (call (.ref fI) (.ref x :: rest)) (fun r s' => r = .none ∧ Q (.ref x) s') ⟨h', g, d, t, os⟩) :
    wpG (model prog w) A (call (.ref C) rest) Q ⟨h, g, d, t, os⟩ := by
  have f1 := tc_lookup
  have f2 := tc_bind (.ref C)
  have hT : (⟨h, g, d, t, os⟩ : Shared).TypeIs (.ref C) "type" := ⟨_, hC, rfl⟩
  have hmro : mroOf (.type "object") = pure [.type "object"] := by kernel_rfl
  have hlk : typeLookup (.type "object") "__init__" = pure (some (.builtin "object.__init__")) := by rw [typeLookup_type, builtinLookup_eq_fast]; kernel_rfl
  refine wpG_call (codeG_of_tree rfl (wpG_of ?_))
  show wpAny _ _ (callAny (.ref C) _) _ _ _
  repeat (any_goals (first | assumption | with_reducible refine wpAny_loadPart_at hC ?_ | wp_step))
  refine .inl ⟨rfl, codeG_of_tree rfl ?_⟩
  show wpG _ _ (do checkBuiltinCall "type.__call__" ⟨.ref C :: rest, []⟩; again (.builtin "type.__call__" ⟨.ref C :: rest, []⟩)) _ _
  refine wpG_any (Q := fun _ s' => s' = ⟨h, g, d, t, os⟩) (wpAny_check_type_call_sub hC rfl) fun _ s' e => ?_
  subst e
  refine wpG_pure (.inl ⟨Code.quiet_builtin _ (by decide +kernel), codeG_builtin rfl entry_typeCall ?_⟩)
  unfold Builtin.«type.__call__»
  dsimp only
  refine wpG_iff rfl ?_
  refine wpG_any (Q := fun l s' => l.isEmpty = false ∧ s' = ⟨h, g, d, t, os⟩) (by unfold mroOf classData; dsimp only; refine wpAny_bind (wpAny_bind (wpAny_loadPart_at hC ?_)); dsimp only [excClassObj]; exact wpAny_pure (wpAny_pure ⟨rfl, rfl⟩)) fun l s' e => ?_
  obtain ⟨e, rfl⟩ := e
  refine wpG_iff e ?_
  refine wpG_any (Q := fun l s' => l = some "object.__new__" ∧ s' = ⟨h, g, d, t, os⟩) (wpAny_madeBy_exc hC ⟨rfl, rfl⟩) fun l s' e => ?_
  obtain ⟨rfl, rfl⟩ := e
  refine wpG_bind (wpG_pure ?_)
  refine wpG_hold (wpG_of (wpAny_call (codeAny_call_builtin_code (Code.quiet_builtin _ PySem.F.objNew.quiet) (wpAny_check_obj_new PySem.F.objNew hC (codeAny_obj_new PySem.F.objNew hC hn hi ?_))))) fun a s' h => h
  have hC₁ := Heap.get?_push_of_some { cls := .ref C, dict := some h.objs.size, data := .plain } (Heap.get?_push_of_some { cls := .type "dict", data := .dict #[] } hC)
  have hfI₁ := Heap.get?_push_of_some { cls := .ref C, dict := some h.objs.size, data := .plain } (Heap.get?_push_of_some { cls := .type "dict", data := .dict #[] } hfI)
  have hn₁ : ((h.push { cls := .type "dict", data := .dict #[] }).push { cls := .ref C, dict := some h.objs.size, data := .plain }).Ns N mN :=
    let ⟨o, es, ep, e, r⟩ := hn; ⟨o, es, ep, Heap.get?_push_of_some _ (Heap.get?_push_of_some _ e), r⟩
  have hget : ((h.push { cls := .type "dict", data := .dict #[] }).push { cls := .ref C, dict := some h.objs.size, data := .plain }).get? (h.objs.size + 1) = some { cls := .ref C, dict := some h.objs.size, data := .plain } := by heap_get
  have hgd : ((h.push { cls := .type "dict", data := .dict #[] }).push { cls := .ref C, dict := some h.objs.size, data := .plain }).get? h.objs.size = some { cls := .type "dict", data := .dict #[] } :=
    Heap.get?_push_of_some _ (Heap.get?_push_at rfl rfl)
  have hcC : (Value.ref C :: [Value.type "object"]).contains (.ref C) = true := by simp
  show wpG _ _ _ _ _
  refine wpG_any (Q := fun b s' => b = true ∧ s' = ⟨(h.push { cls := .type "dict", data := .dict #[] }).push { cls := .ref C, dict := some h.objs.size, data := .plain }, g, d, t, os⟩) (by unfold isInstance typeOf; dsimp only; refine wpAny_bind (wpAny_bind (wpAny_loadPart_at hget (wpAny_pure ?_))); refine wpAny_isSubtype_exc hC₁ ?_; rw [hcC]; exact ⟨rfl, rfl⟩) fun b s' e => ?_
  obtain ⟨rfl, rfl⟩ := e
  refine wpG_iff rfl ?_
  refine wpG_then (Q := fun r s' => r = some .none ∧ Q (.ref (h.objs.size + 1)) s') (wpG_holding ?_) fun r s' e => ?_
  · unfold callSpecial? specialOf
    refine wpG_any (Q := fun f s' => f = some (.ref fI) ∧ s' = ⟨(h.push { cls := .type "dict", data := .dict #[] }).push { cls := .ref C, dict := some h.objs.size, data := .plain }, g, d, t, os⟩) (by
      unfold typeOf; dsimp only; refine wpAny_bind (wpAny_bind (wpAny_loadPart_at hget (wpAny_pure ?_))); refine wpAny_typeLookup_exc hC₁ hn₁ hmro hlk ?_; rw [hi]; exact ⟨rfl, rfl⟩) fun f s' e => ?_
    obtain ⟨rfl, rfl⟩ := e
    refine wpG_holding (wpG_any (Q := fun f s' => f = (.ref fI, [.ref (h.objs.size + 1)]) ∧ s' = ⟨(h.push { cls := .type "dict", data := .dict #[] }).push { cls := .ref C, dict := some h.objs.size, data := .plain }, g, d, t, os⟩) (by
      unfold bindSpecial; refine wpAny_bind (wpAny_typeOf (T := "function") ⟨_, hfI₁, hfc⟩ ?_); rw [if_pos (by decide)]; exact wpAny_pure ⟨rfl, rfl⟩) fun f s' e => ?_)
    obtain ⟨rfl, rfl⟩ := e
    refine wpG_then (hq _ (h.objs.size + 1) h.objs.size ⟨fun b o hb => Heap.get?_push_of_some _ (Heap.get?_push_of_some _ hb), Heap.get?_none_of_le (Nat.le_succ _), Heap.get?_none_of_le (Nat.le_refl _),
      ⟨_, hget, rfl, (fun c q => nomatch q), .inr ⟨h.objs.size, rfl, Nat.ne_of_lt (Nat.lt_succ_self _), Heap.Ns1.of_empty ⟨_, #[], _, hgd, rfl, fun e he => absurd he (by simp), fun _ => rfl⟩⟩⟩,
      (fun o ho => by obtain rfl := Option.some.inj (hget.symm.trans ho); rfl), by simp only [Heap.size_push]; omega⟩) fun r s' e => ?_
    exact wpG_pure ⟨congrArg some e.1, e.2⟩
  · obtain ⟨rfl, e⟩ := e
    exact wpG_iff rfl (wpG_pure ⟨_, rfl, e⟩)
end
section
variable {κ : Kx} {σ : Sg} {P : PV} {Q : Value → Shared → Prop} {a : E} {l : List E} {x : PySem.Expr}
theorem s_glist (ha : Snd a) : Snd (.glist a) := fun κ x e => by
  apply vCall_el e; intro h es kw p e
  obtain ⟨e1, e⟩ := and_el e
  obtain ⟨e2, e3⟩ := and_el e
  apply on1_el e3; intro y e3
  obtain ⟨e3, e4⟩ := and_el e3
  cases List.isEmpty_iff.mp e1
  apply glob_el e2; intro pb h1 h2
  have eL : decL κ.nf [a] κ.env.scope [y] = true := by
    show (noStar y && (decE κ.nf a κ.env.scope y && true)) = true
    rw [e3, e4]; rfl
  refine both (fun σ P Q g ev k => g_Call_Name (name_builtin g (g.ok.gb .list) (g.ok.bb .list) h1 h2 (g_callWith ((backTo_any _ _).trans (decL_star eL))
    ((snd_cons ha snd_nil).sl κ [y] eL _ σ (fun vs s => one vs fun v => kGlist P v s) _ g ev fun ws vs σ1 x1 g1 R1 _ ev => ⟨keeps_machine (fun a q => nomatch q), ?_⟩)))) rfl
  apply one_el (C := fun ws => W κ (call (.type "list") ws) Q σ1.s) ev R1; intro v w ev R
  apply asL_el (C := fun w => W κ (call (.type "list") [w]) Q σ1.s) ev R; intro l ad us ev pl _ r
  obtain ⟨m, pl⟩ := pl
  refine wpG_of (call_list_seq ad (.inl rfl) pl rfl rfl (fun h' c' kk hn => ?_) (by show us.length ≤ _; rw [r.length]; exact Nat.le_trans ev.1 (by decide)))
  exact (k.pre x1).cell (p := (σ1.s.heap.objs.size, σ1.s.heap.objs.size)) (x := .lst (l.map .d)) (t := σ1.s.toks) g1 kk (Heap.get?_none_of_le (Nat.le_refl _)) (fun X b _ pr => ⟨rfl, us, ⟨_, hn, rfl, _, rfl⟩, All2.map _ (r.imp fun d _ r => Rep.move (fun b o e _ => kk b o e) b d r)⟩) (fun _ => g1.inv.low) ev.2
theorem s_new {c : N} (hl : SndL l) : Snd (.new c l) := fun κ x e => by
  apply vCall_el e; intro h es kw p e
  obtain ⟨e1, e⟩ := and_el e
  obtain ⟨e1, hc⟩ := and_el e1
  obtain ⟨e2, e3⟩ := and_el e
  cases List.isEmpty_iff.mp (and_el e1).1
  have hc : attrsOf c ≠ [] := fun q => by rw [q] at hc; cases hc
  apply glob_el e2; intro pb h1 h2
  refine both (fun σ P Q g ev k => ?_) rfl
  obtain ⟨hk, ev⟩ := ifT_el ev
  obtain ⟨fn, hf⟩ := known_el hk
  have K := g.ok.cls c hc
  obtain ⟨_, fI, hfI, FI⟩ := K.meth _ fn hf
  obtain ⟨oI, fdI, bI, hoI, hcI, hdI, _⟩ := id FI.h
  refine g_Call_Name (name_global g (g.ok.kl c hc) h1 h2 (g_callWith ((backTo_any _ _).trans (decL_star e3)) (hl.sl κ es e3 _ σ _ _ g ev fun ws vs σ1 x1 g1 R1 _ ev => ⟨keeps_cls (K.at_.keeps g1.inv.base), ?_⟩)))
  have k := k.pre x1
  obtain ⟨nm, q, bs, sn, sub, col, dd, k0, k1, k2, k3, k5, hC⟩ := (K.at_.keeps g1.inv.base).obj
  refine g_new hC (K.at_.keeps g1.inv.base).ns hfI (g1.inv.base _ _ hoI) hcI fun h' xa dx mo => ?_
  have xb : κ.c.hb.get? xa = none := by
    cases q : κ.c.hb.get? xa with
    | none => rfl
    | some o => have := g1.inv.base _ _ q; rw [mo.newX] at this; cases this
  obtain ⟨o, ho, hcl, hnc, hd⟩ := mo.inst
  have hdx := mo.dict o ho
  obtain ⟨hne, hns⟩ : dx ≠ xa ∧ h'.Ns1 dx fun _ => none := by
    rcases hd with ⟨e, _⟩ | ⟨d, e, hne, hns⟩
    · rw [hdx] at e; cases e
    · rw [hdx] at e; cases e; exact ⟨hne, hns⟩
  have q := add_ok (p := (xa, dx)) (x := .inst c []) g1.inv mo.keeps mo.newD σ1.s.toks (fun X b lv pr => ⟨⟨hc, fun z => (lv xa z).elim (fun e => hne e.symm) (fun ⟨o, e⟩ => by rw [mo.newX] at e; cases e), xb⟩, _, ⟨o, ho, hcl, hnc, hdx, hne, hns⟩, ⟨fun n v e => (nomatch e), fun y e => absurd rfl e⟩⟩) (fun e => absurd e.symm hne)
  obtain ⟨x2, I2, here⟩ := q
  refine g.call c .x___init__ fn fI hf FI (κ.A.under (.builtin "type.__call__" ⟨.ref (κ.c.cad c) :: ws, []⟩)) κ.Z _ (.loc σ1.S.length :: vs) (.ref xa :: ws) _ _ ⟨g.bud.hd, ?_, ?_⟩ I2 ⟨_, _, rfl, ⟨_, here, rfl⟩, x2.rvs R1⟩ ev.h fun w v σ3 x3 I3 R3 ev => ?_
  · have hw : (Code.builtin "type.__call__" ⟨.ref (κ.c.cad c) :: ws, []⟩).weight = 1 := by generalize κ.c.cad c = a; kernel_rfl
    show κ.A.depth + Code.weight _ + _ + _ < _
    rw [hw]; have := g.bud.dp; omega
  · have hu : (Code.builtin "type.__call__" ⟨.ref (κ.c.cad c) :: ws, []⟩).cUnits = 1 := by generalize κ.c.cad c = a; kernel_rfl
    show κ.A.units + Code.cUnits _ + _ + _ < _
    rw [hu]; have := g.bud.un; omega
  · apply asN_el (C := fun w => w = Value.none ∧ Q (.ref xa) σ3.s) ev R3; intro ev
    have x4 := x2.trans x3
    exact ⟨rfl, k _ (.loc σ1.S.length) σ3 x4 (g1.ext x4 I3) ⟨(xa, dx), x3.pre _ _ here, rfl⟩ ev⟩
end
end
section
theorem keysOk_all {ks : List N} {ps : List (Option PySem.Expr)} (h : keysOk ks ps = true) : ps.length = ks.length ∧ ps.all (·.isSome) = true := by
  induction ks generalizing ps with
  | nil => cases List.isEmpty_iff.mp h; exact ⟨rfl, rfl⟩
  | cons n ks ih => cases ps with
    | nil => cases h
    | cons p ps =>
      obtain ⟨h1, h2⟩ := and_el h
      cases p with
      | none => cases h1
      | some p => exact ⟨congrArg (· + 1) (ih h2).1, (ih h2).2⟩
theorem nodupN_nodup {l : List N} (h : nodupN l = true) : l.Nodup := by
  induction l with
  | nil => exact List.nodup_nil
  | cons a l ih =>
    obtain ⟨h1, h2⟩ := and_el h
    refine List.nodup_cons.mpr ⟨fun m => ?_, ih h2⟩
    have : keysIn a l = true := by
      clear ih h h1 h2
      induction l with
      | nil => cases m
      | cons b l ih =>
        show (Nat.beq b a || keysIn a l) = true
        rcases List.mem_cons.mp m with rfl | m
        · rw [Nat.beq_refl]; rfl
        · rw [ih m, Bool.or_true]
    rw [this] at h1; cases h1
theorem merged_nodup (kvs acc : List (Key × Value)) (h : ((acc ++ kvs).map (·.1)).Nodup) : merged acc kvs = acc ++ kvs := by
  induction kvs generalizing acc with
  | nil => exact (List.append_nil acc).symm
  | cons kv kvs ih =>
    have hn : acc.any (fun q => decide (q.1 = kv.1)) = false := by
      rw [List.any_eq_false]
      intro q hq e
      rw [List.map_append, List.nodup_append] at h
      exact h.2.2 _ (List.mem_map.mpr ⟨q, hq, rfl⟩) _ (.head _) (of_decide_eq_true e)
    have e : merged acc (kv :: kvs) = merged (stored acc kv.1 kv.2) kvs := rfl
    rw [e, stored, if_neg (by rw [hn]; exact Bool.false_ne_true), ih _ (by rwa [List.append_assoc]), List.append_assoc]
    rfl
theorem RepKs.keys {X : Addr → Prop} {ft : Ft} {h : Heap} {l : List (Key × V)} {kvs : List (Key × Value)} (r : RepKs X ft h l kvs) : kvs.map (·.1) = l.map (·.1) := by
  induction l generalizing kvs with
  | nil => cases r; rfl
  | cons p l ih => obtain ⟨q, kvs, rfl, ⟨a, _⟩, r⟩ := r; exact congr (congrArg List.cons a.symm) (ih r)
theorem keys_zip {ks : List N} {vs : List V} (h : ks.length = vs.length) : ((ks.map Key.s).zip vs).map (·.1) = ks.map Key.s := by
  rw [List.map_fst_zip]
  rw [List.length_map, h]; exact Nat.le_refl _
section
variable {κ : Kx} {σ : Sg} {P : PV} {Q : Value → Shared → Prop} {a : E} {l : List E} {x : PySem.Expr}
theorem s_pairs (al : ∀ e ∈ l, Snd e) {ks : List N} {ps : List (Option PySem.Expr)} {es : List PySem.Expr} (h1 : keysOk ks ps = true) (h2 : decL κ.nf l κ.env.scope es = true) (h3 : ks.length = es.length) (pos : Pos) (P : PL) (Q : List (Value × Value) → Shared → Prop)
    (g : G κ σ) (ev : wL (callF κ.n) l κ.r σ.S P) (k : ∀ prs kvs vs σ', Ext noF σ σ' → G κ σ' → Carries (mixKind κ.c.prog κ.c.w) prs kvs → RepKs (Xs σ'.ft κ.Z) σ'.ft σ'.s.heap ((ks.map .s).zip vs) kvs → vs.length = es.length → P vs σ'.S → Q prs σ'.s) :
    W κ (evalPairs (pairTrees ps es κ.env pos)) Q σ.s := by
  induction l generalizing ks ps es σ P Q with
  | nil =>
    cases List.isEmpty_iff.mp h2
    cases List.eq_nil_of_length_eq_zero h3
    cases List.isEmpty_iff.mp h1
    exact wpG_of (pairTrees_nil_walk (k [] [] [] σ (Ext.refl ..) g trivial rfl rfl ev))
  | cons e l ih =>
    cases es with
    | nil => cases h2
    | cons y es => cases ks with
      | nil => cases h3
      | cons n ks => cases ps with
        | nil => cases h1
        | cons p ps => cases p with
          | none => cases h1
          | some p =>
            obtain ⟨q1, q2⟩ := and_el h1
            obtain ⟨_, q3⟩ := and_el h2
            obtain ⟨q3, q4⟩ := and_el q3
            revert h1
            apply vCon_el q1; intro kc j pp q1
            apply dec_el (C := fun kc => _ → W κ (evalPairs (pairTrees (some (.Constant kc j pp) :: ps) (y :: es) κ.env pos)) Q σ.s) q1
            intro _
            show W κ (evalPairs ((eval (.Constant (.str n.str) j pp) κ.env, do let x ← eval y κ.env; standAt pos; pure x) :: pairTrees ps es κ.env pos)) Q σ.s
            unfold evalPairs
            have x0 := grow_ok (F := noF) g.inv (h' := σ.s.heap) (fun _ _ e => e) (σ.s.toks + 1)
            have g0 := g.ext x0.1 x0.2
            refine wpG_bind (wpG_of (wpAny_Constant_str ?_))
            refine wpG_hold (wpG_then ((al e (.head _) κ y q3).1 _ _ (fun w s => W κ (evalPairs (pairTrees ps es κ.env pos)) (fun r s => Q ((.str n.str σ.s.toks, w) :: r) s) s) g0 ev fun w v σ1 x1 g1 R1 ev => ?_) fun w s h => wpG_sat (wpG_pure h)) fun w s h => wpG_hold h fun _ _ h => wpG_pure h
            exact ih (fun e m => al e (.tail _ m)) q2 q4 (Nat.succ.inj h3) _ _ g1 ev fun prs kvs vs σ2 x2 g2 C2 R2 hl ev =>
              k _ ((.s n, w) :: kvs) (v :: vs) σ2 (x0.1.trans (x1.trans x2)) g2 ⟨key_is _ _ (.s n) _ ⟨_, rfl⟩, rfl, C2⟩ ⟨_, _, rfl, ⟨rfl, x2.rv R1⟩, R2⟩ (congrArg (· + 1) hl) ev
theorem s_dict {ks : List N} (hl : SndL l) : Snd (.dict ks l) := fun κ x e => by
  apply vDic_el e; intro ps es p e
  obtain ⟨e1, e⟩ := and_el e
  obtain ⟨e1, e2⟩ := and_el e1
  obtain ⟨e0, e1⟩ := and_el e1
  obtain ⟨e2, e3⟩ := and_el e2
  obtain ⟨e4, e5⟩ := and_el e
  have e4 := of_decide_eq_true e4
  obtain ⟨hz, hall⟩ := keysOk_all e1
  have hlen := of_decide_eq_true e3
  refine both (fun σ P Q g ev k => ?_) rfl
  unfold W
  have hn := pairTrees_length ps es κ.env p hall (hz.trans e4)
  have h0 : pairTrees ps es κ.env p ≠ [] := fun q => by
    rw [q] at hn
    cases List.eq_nil_of_length_eq_zero (hz.symm.trans hn.symm)
    cases e0
  have h15 : (pairTrees ps es κ.env p).length ≤ 15 := by rw [hn, hz, e4]; exact hlen
  rw [arm_eval_Dict, zip_pairTrees ps es κ.env p hall (hz.trans e4), dictDisplay_pairs _ h0 (Nat.lt_of_le_of_lt h15 (by decide))]
  refine wpG_sat (wpG_then (Q := fun d s => Q (.ref d) s) ?_ fun _ _ h => wpG_pure h)
  unfold subDict
  refine wpG_bind (wpG_of (wpAny_alloc ?_))
  rw [if_pos h15]
  have fr : σ.s.heap.get? σ.s.heap.objs.size = none := Heap.get?_none_of_le (Nat.le_refl _)
  have q := add_ok (p := (σ.s.heap.objs.size, σ.s.heap.objs.size)) (x := .lock []) g.inv (push_kk { cls := .type "dict", data := .dict #[] }) fr σ.s.toks (fun X b _ pr => ⟨rfl, [], Heap.DictOf.new _, rfl⟩) (fun _ => g.inv.low)
  obtain ⟨x1, I1, here⟩ := q
  have g1 := g.ext x1 I1
  refine wpG_then (Q := fun _ s => Q (.ref σ.s.heap.objs.size) s) (wpG_holding ?_) fun _ _ h => wpG_pure h
  refine wpG_then (s_pairs (σ := ⟨_, _, _⟩) hl.al e1 e5 e4 p (fun vs s => kDict ks σ.S.length P vs s) (fun prs s => wpG (model κ.c.prog κ.c.w) κ.A (forIn prs PUnit.unit fun (x : Value × Value) (_ : PUnit) => (do dictSet σ.s.heap.objs.size x.1 x.2; pure (ForInStep.yield PUnit.unit) : Sem (ForInStep PUnit))) (fun _ s => Q (.ref σ.s.heap.objs.size) s) s) g1 ev fun prs kvs vs σ2 x2 g2 C2 R2 hv ev => ?_) fun prs s h => wpG_holding (wpG_then h fun _ _ h => wpG_pure h)
  have hp := x2.pre _ _ here
  obtain ⟨hS, _⟩ := x2.lock σ.S.length [] _ (List.getElem?_concat_length ..) here
  obtain ⟨_, kvs0, D, r0⟩ := g2.inv.at' hp hS
  cases r0
  have nd : (kvs.map (·.1)).Nodup := by
    rw [R2.keys, keys_zip (e4.trans hv.symm)]
    exact List.Pairwise.map _ (fun a b n q => n (by injection q)) (nodupN_nodup e2)
  refine wpG_of (wpAny_storeAll prs kvs [] _ _ C2 D ?_ fun h' D' sb => ?_)
  · have q := congrArg List.length R2.keys
    rw [List.length_map, List.length_map, List.length_zip, List.length_map, hv, e4, Nat.min_self] at q
    rw [q, sizeLine_eq]; show 0 + es.length ≤ _; omega
  · rw [merged_nodup kvs [] nd] at D'
    have kk := put_kp (Z := κ.Z) hp (same_kb sb)
    have C : CellAt κ.c (Xs σ2.ft κ.Z) σ2.ft h' (σ.s.heap.objs.size, σ.s.heap.objs.size) (.dict ((ks.map Key.s).zip vs)) := ⟨rfl, kvs, D', R2.move kk (fun _ _ _ m => m) (fun _ _ e => e)⟩
    have x3 := (x1.trans x2).put (y := .dict ((ks.map Key.s).zip vs)) g2.inv hp (same_kb sb) g.inv fr (σ2.s.toks + prs.length)
    exact k _ (.loc σ.S.length) _ x3 (g.ext x3 (put_inv g2.inv hp (same_kb sb) C _)) ⟨_, hp, rfl⟩ ev
end
end
section
def ZO (Z : Addr → Prop) (oa : Option Addr) (a : Addr) : Prop := Z a ∨ oa = some a
structure Kt where
  c : Cx
  n : Nat
  A : Around
  env : Env
  nf : Nat → Option Str
  Z : Addr → Prop
  F : Addr → Prop
  σ0 : Sg
abbrev Kt.e (κ : Kt) (r : Slots) (oa : Option Addr) : Kx := ⟨κ.c, κ.n, κ.A, κ.env, κ.nf, ZO κ.Z oa, r⟩
def Wt (κ : Kt) {α : Type} (t : Sem α) (Q : α → Shared → Prop) (s : Shared) : Prop := wpG (model κ.c.prog κ.c.w) κ.A t Q s
def Wta (κ : Kt) {α : Type} (t : Sem α) (Q : α → Shared → Prop) (s : Shared) : Prop := wpAny (model κ.c.prog κ.c.w) κ.A t Q noE s
noncomputable def OwIs (Z : Addr → Prop) (σ : Sg) (a : Addr) (w : Ow) : Prop := Ow.casesOn w (fun l => ∃ vs, σ.s.heap.PlainList a (Array.mk vs) ∧ All2 (Rd Z σ) l vs) fun l => σ.s.heap.get? a = some { cls := .type "bytearray", data := .bytearray (Array.mk l) }
noncomputable def OwnOK (κ : Kt) (σ : Sg) (r : Slots) (o : OO) (oa : Option Addr) : Prop := o.casesOn (oa = none) fun p => ∃ a, oa = some a ∧ ¬ κ.Z a ∧ slotOf r p.1 = none ∧ ∃ x, κ.nf p.1 = some x ∧ At σ.s.heap κ.env x (.ref a) ∧ OwIs (ZO κ.Z oa) σ a p.2
structure Fy (κ : Kt) : Prop where
  ok : Ok κ.c
  call : CallS κ.c κ.n
  bud : Bud κ.n κ.A
  ev : EnvOK κ.Z κ.env
  nofree : ∀ x, κ.env.scope.names.lookup x ≠ some .free
  inj : ∀ i j x, κ.nf i = some x → κ.nf j = some x → i = j
def Bs (κ : Kt) (x : Str) : Prop := ∀ a, (κ.env.scope.names.lookup x = some .local ∧ a = κ.env.locals) ∨ (κ.env.scope.names.lookup x = some .cell ∧ κ.env.cells.lookup x = some a) → κ.F a ∨ κ.σ0.s.heap.get? a = none
structure Fx (κ : Kt) : Prop extends Fy κ where
  base : ∀ a, FA κ.env a → κ.F a ∨ κ.σ0.s.heap.get? a = none
theorem Fx.bs {κ : Kt} (X : Fx κ) (x : Str) : Bs κ x := fun a h => X.base a (h.imp (·.2) fun h => ⟨x, h.2⟩)
theorem Fy.za {κ : Kt} (X : Fy κ) (a : Addr) (f : FA κ.env a) : κ.Z a := X.ev.fa f
structure Same (κ : Kt) (σ σ' : Sg) : Prop where
  S : σ'.S = σ.S
  ft : σ'.ft = σ.ft
  kp : ∀ d o, ¬ FA κ.env d → σ.s.heap.get? d = some o → σ'.s.heap.get? d = some o
theorem Same.trans {κ : Kt} {σ σ' σ'' : Sg} (a : Same κ σ σ') (b : Same κ σ' σ'') : Same κ σ σ'' := ⟨b.S.trans a.S, b.ft.trans a.ft, fun d o n e => b.kp d o n (a.kp d o n e)⟩
structure Sr (κ : Kt) (r : Slots) (o : OO) (oa : Option Addr) (σ : Sg) : Prop where
  ext : Ext κ.F κ.σ0 σ
  inv : Inv κ.c (ZO κ.Z oa) σ
  locs : Locs (κ.e r oa) σ
  frm : FrameOK σ.s.heap κ.env
  own : OwnOK κ σ r o oa
  ob : ∀ a, oa = some a → κ.F a ∨ κ.σ0.s.heap.get? a = none
structure Kn (κ : Kt) (Q : K) (R : PV) (QF : Flow → Shared → Prop) : Prop where
  nx : ∀ r o oa σ, Sr κ r o oa σ → Q r o σ.S → QF .next σ.s
  rt : ∀ w v r o oa σ, Sr κ r o oa σ → Rv (ZO κ.Z oa) σ v w → R v σ.S → QF (.ret w) σ.s
def SS (a : S) : Prop := ∀ κ p, Fx κ → decS κ.nf κ.env.scope a p = true → ∀ r o oa σ Q R QF, Sr κ r o oa σ → wS (callF κ.n) a r o σ.S Q R → Kn κ Q R QF → Wt κ (exec p κ.env) QF σ.s
def SB (l : List S) : Prop := ∀ κ ps, Fx κ → decB κ.nf κ.env.scope l ps = true → ∀ r o oa σ Q R QF, Sr κ r o oa σ → wB (callF κ.n) l r o σ.S Q R → Kn κ Q R QF → Wt κ (execs ps κ.env) QF σ.s
def Mv (Z : Addr → Prop) (σ σ' : Sg) : Prop := ∀ v w, Rv Z σ v w → Rv Z σ' v w
def TT (t : T) : Prop := ∀ κ p, Fx κ → decT κ.nf κ.env.scope t p = true → ∀ r o oa σ v w Q QF, Sr κ r o oa σ → Rv (ZO κ.Z oa) σ v w → putP (callF κ.n) t v r o σ.S Q → (∀ r' σ', Sr κ r' o oa σ' → Mv (ZO κ.Z oa) σ σ' → Q r' σ'.S → QF () σ'.s) → Wt κ (assign p κ.env w) QF σ.s
theorem Ns.uniq {h : Heap} {a : Addr} {m m' : Str → Option Value} (x : h.Ns a m) (y : h.Ns a m') : m = m' := by
  obtain ⟨o, es, ep, e1, e2, _, e3⟩ := x
  obtain ⟨o', es', ep', f1, f2, _, f3⟩ := y
  cases e1.symm.trans f1
  cases e2.symm.trans f2
  exact funext fun n => (e3 n).symm.trans (f3 n)
theorem slot_set {r : Slots} {i j : Nat} {v w : V} (h : slotOf (slotSet r i v) j = some w) : (j = i ∧ w = v) ∨ (j ≠ i ∧ slotOf r j = some w) := by
  induction r generalizing i j with
  | nil => cases h
  | cons a r ih =>
    cases i with
    | zero => cases j with
      | zero => exact .inl ⟨rfl, (Option.some.inj h).symm⟩
      | succ j => exact .inr ⟨Nat.succ_ne_zero j, h⟩
    | succ i => cases j with
      | zero => exact .inr ⟨(Nat.succ_ne_zero i).symm, h⟩
      | succ j => exact (ih h).imp (fun a => ⟨congrArg Nat.succ a.1, a.2⟩) fun a => ⟨fun q => a.1 (Nat.succ.inj q), a.2⟩
theorem slot_set_none {r : Slots} {i j : Nat} {v : V} (n : j ≠ i) (h : slotOf r j = none) : slotOf (slotSet r i v) j = none := by
  cases e : slotOf (slotSet r i v) j with
  | none => rfl
  | some w => exact (slot_set e).elim (fun a => absurd a.1 n) fun a => by rw [h] at a; cases a.2
section
variable {κ : Kt} {r : Slots} {o : OO} {oa : Option Addr} {σ σ' : Sg} {x : Str} {w : Value} {v : V}
theorem EnvOK.zo {Z : Addr → Prop} {env : Env} (E : EnvOK Z env) : EnvOK (ZO Z oa) env := ⟨E.kind, E.glob, E.bi, .inl E.zl, fun x a h => .inl (E.zc x a h), E.cf⟩
theorem Sr.g (X : Fy κ) (s : Sr κ r o oa σ) : G (κ.e r oa) σ := ⟨X.ok, X.call, X.bud, X.ev.zo, s.inv, s.locs, s.frm, X.inj⟩
theorem OwIs.move {Z Z' : Addr → Prop} {a : Addr} {w : Ow} (k : ∀ o, σ.s.heap.get? a = some o → σ'.s.heap.get? a = some o) (m : ∀ d w, Rd Z σ d w → Rd Z' σ' d w) (O : OwIs Z σ a w) : OwIs Z' σ' a w := by
  cases w with
  | lst l => obtain ⟨vs, ⟨z, p⟩, R⟩ := O; exact ⟨vs, ⟨z, k _ p⟩, R.imp m⟩
  | byt l => exact k _ O
theorem OwnOK.move (O : OwnOK κ σ r o oa) (a1 : ∀ p x w, o = some p → κ.nf p.1 = some x → At σ.s.heap κ.env x w → At σ'.s.heap κ.env x w) (k : ∀ a o, oa = some a → ¬ κ.Z a → σ.s.heap.get? a = some o → σ'.s.heap.get? a = some o) (m : ∀ d w, Rd (ZO κ.Z oa) σ d w → Rd (ZO κ.Z oa) σ' d w)
    {r' : Slots} (n : ∀ p, o = some p → slotOf r p.1 = none → slotOf r' p.1 = none) : OwnOK κ σ' r' o oa := by
  cases o with
  | none => exact O
  | some p =>
    obtain ⟨a, e, h1, h2, x, h3, h4, h5⟩ := O
    exact ⟨a, e, h1, n p rfl h2, x, h3, a1 p x _ rfl h3 h4, h5.move (fun o q => k a o e h1 q) m⟩
theorem Sr.step (X : Fy κ) (s : Sr κ r o oa σ) (x : Ext noF σ σ') (g : G (κ.e r oa) σ') : Sr κ r o oa σ' := by
  have nz : ∀ a, ZO κ.Z oa a → ¬ (Ms σ.ft a ∨ noF a) := fun a z m => m.elim (s.inv.zm a z) id
  exact ⟨s.ext.trans x.of_no, g.inv, g.locs, g.frm,
    s.own.move (fun p y w _ _ a => a.ext X.ev.zo s.inv x) (fun a o e _ ho => x.kp _ _ ho (nz _ (.inr e))) (fun d w R => x.rd R) fun _ _ h => h, s.ob⟩
theorem At.other {b : Addr} {h h' : Heap} {env : Env} {y : Str} (sb : Heap.SameBut b h h') (nl : env.locals ≠ b) (nc : ∀ a, env.cells.lookup y = some a → a ≠ b) (a : At h env y w) : At h' env y w := by
  rcases a with ⟨k, m, hm, e⟩ | ⟨k, a, ha, hc⟩
  · exact .inl ⟨k, m, hm.sameBut sb nl, e⟩
  · exact .inr ⟨k, a, ha, hc.sameBut sb (nc a ha)⟩
theorem store_core {Q : Unit → Shared → Prop} (X : Fy κ) (bs : Bs κ x) (R : FrameOK σ.s.heap κ.env) (hv : isVar (κ.env.scope.names.lookup x) = true)
    (main : ∀ b h' t, FA κ.env b → (κ.F b ∨ κ.σ0.s.heap.get? b = none) → Heap.SameBut b σ.s.heap h' → (∃ o, h'.get? b = some o) → FrameOK h' κ.env → At h' κ.env x w → (∀ y u, y ≠ x → At σ.s.heap κ.env y u → At h' κ.env y u) → Q () { σ.s with heap := h', toks := t }) : Wta κ (storeName κ.env x w) Q σ.s := by
  have hcases : κ.env.scope.names.lookup x = some .local ∨ κ.env.scope.names.lookup x = some .cell := by
    unfold isVar at hv
    simp only [Bool.or_eq_true, beq_iff_eq] at hv
    exact hv.resolve_right (X.nofree x)
  rcases hcases with hl | hl
  · obtain ⟨m, hm⟩ := R.ns
    refine wpAny_storeName_local (env := κ.env) hl hm (fun h' hn' sb => ?_) (by rw [X.ev.kind]; rfl)
    refine main κ.env.locals h' _ (.inl rfl) (bs _ (.inl ⟨hl, rfl⟩)) sb (let ⟨o, _, _, e, _⟩ := hn'; ⟨o, e⟩) ⟨⟨_, hn'⟩, fun y a ea => ?_, R.ap⟩ (.inl ⟨hl, _, hn', if_pos rfl⟩) fun y u ny ay => ?_
    · obtain ⟨nl, u, hu⟩ := R.cl y a ea
      exact ⟨nl, u, hu.sameBut sb nl⟩
    · rcases ay with ⟨ky, m', hm', eu⟩ | ⟨ky, a, ha, hc⟩
      · cases Ns.uniq hm hm'
        exact .inl ⟨ky, _, hn', (if_neg ny).trans eu⟩
      · exact .inr ⟨ky, a, ha, hc.sameBut sb (R.cl y a ha).1⟩
  · obtain ⟨a, ha⟩ := X.ev.cf x hl
    obtain ⟨nl, u, hu⟩ := R.cl x a ha
    refine wpAny_storeName_cell X.ev.kind hl ha hu fun h' hc' sb => ?_
    refine main a h' σ.s.toks (.inr ⟨x, ha⟩) (bs _ (.inr ⟨hl, ha⟩)) sb (let ⟨o, e, _⟩ := hc'; ⟨o, e⟩) ⟨?_, fun y b eb => ?_, R.ap⟩ (.inr ⟨.inl hl, a, ha, hc'⟩) fun y u ny ay => ?_
    · obtain ⟨m, hm⟩ := R.ns
      exact ⟨m, hm.sameBut sb (Ne.symm nl)⟩
    · obtain ⟨nb, u, hub⟩ := R.cl y b eb
      by_cases q : b = a
      · cases q; exact ⟨nb, _, hc'⟩
      · exact ⟨nb, u, hub.sameBut sb q⟩
    · exact ay.other sb (Ne.symm nl) fun b hb q => ny (R.ap y x a (q ▸ hb) ha)
theorem Sr.poke {b : Addr} {h' : Heap} (t : Nat) (s : Sr κ r o oa σ) (zb : ZO κ.Z oa b) (fb : κ.F b ∨ κ.σ0.s.heap.get? b = none) (kb : ∀ a o, a ≠ b → σ.s.heap.get? a = some o → h'.get? a = some o) (hn : ∃ o, h'.get? b = some o) :
    Ext κ.F κ.σ0 (σ.to h' t) ∧ Inv κ.c (ZO κ.Z oa) (σ.to h' t) ∧ Kp (Xs σ.ft (ZO κ.Z oa)) σ.s.heap h' := by
  obtain ⟨x, I⟩ := aside_ok s.inv zb kb hn t
  refine ⟨⟨by show ({ σ.s with heap := h', toks := t } : Shared) = _; rw [s.ext.sh], fun a o ea na => ?_, s.ext.pre, s.ext.new, fun i l p e1 e2 => ?_, fun a o ea => ?_⟩, I, fun a o ea na => kb a o (fun q => na (.inr (q ▸ zb))) ea⟩
  · exact kb a o (fun q => fb.elim (fun f => na (.inr (q ▸ f))) fun f => by rw [q, f] at ea; cases ea) (s.ext.kp a o ea na)
  · obtain ⟨f1, f2⟩ := s.ext.lock i l p e1 e2
    exact ⟨f1, (x.lock i l p f1 (s.ext.pre i p e2)).2.trans f2⟩
  · obtain ⟨o', e'⟩ := s.ext.st a o ea
    exact x.st a o' e'
theorem Mv.kp {Z : Addr → Prop} {h' : Heap} {t : Nat} (k : Kp (Xs σ.ft Z) σ.s.heap h') : Mv Z σ (σ.to h' t) := fun v _ R => RepV.move k (fun _ _ _ m => m) (fun _ _ e => e) v R
theorem store_var {i : Nat} {Q : Unit → Shared → Prop} (X : Fy κ) (bs : Bs κ x) (s : Sr κ r o oa σ) (hx : κ.nf i = some x) (hv : isVar (κ.env.scope.names.lookup x) = true) (ho : ∀ p, o = some p → p.1 ≠ i) (R : Rv (ZO κ.Z oa) σ v w)
    (k : ∀ σ', Sr κ (slotSet r i v) o oa σ' → Mv (ZO κ.Z oa) σ σ' → Same κ σ σ' → Q () σ'.s) : Wta κ (storeName κ.env x w) Q σ.s := by
  refine store_core X bs s.frm hv fun b h' t fb bb sb hn fo ax ay => ?_
  obtain ⟨x1, I1, kk⟩ := s.poke t (.inl (X.za b fb)) bb (same_kb sb) hn
  have mv := Mv.kp (t := t) kk
  refine k (σ.to h' t) ⟨x1, I1, fun j u y h1 h2 h3 => ?_, fo, s.own.move (fun p y u e h a => ay y u (fun q => ho p e (X.inj _ _ x (q ▸ h) hx)) a) (fun a o e nz h => (sb.2 a fun q => nz (q ▸ X.za b fb)).trans h) (fun d w R => mv (.d d) w R) (fun p e h => slot_set_none (ho p e) h), s.ob⟩ mv ⟨rfl, rfl, fun d o nd ed => (sb.2 d fun q => nd (q ▸ fb)).trans ed⟩
  rcases slot_set h1 with ⟨rfl, rfl⟩ | ⟨nj, h1⟩
  · cases hx.symm.trans h2
    exact ⟨w, ax, mv _ _ R⟩
  · obtain ⟨u', a1, a2⟩ := s.locs j u y h1 h2 h3
    exact ⟨u', ay y u' (fun q => nj (X.inj j i y h2 (q ▸ hx))) a1, mv _ _ a2⟩
end
end
section
theorem look_put {k m : N} {v u : V} {l : List (N × V)} (h : look m (putN k v l) = some u) : (k = m ∧ u = v) ∨ (k ≠ m ∧ look m l = some u) := by
  have nb : ∀ {a b : Nat}, Nat.beq a b = false → a ≠ b := fun e q => by rw [q, Nat.beq_refl] at e; cases e
  induction l with
  | nil =>
    have h : (bif Nat.beq k m then some v else none) = some u := h
    cases e : Nat.beq k m with
    | true => rw [e] at h; cases h; exact .inl ⟨Nat.eq_of_beq_eq_true e, rfl⟩
    | false => rw [e] at h; cases h
  | cons p l ih =>
    unfold putN at h
    cases e : Nat.beq p.1 k with
    | true =>
      rw [e] at h
      have h : (bif Nat.beq k m then some v else look m l) = some u := h
      cases e2 : Nat.beq k m with
      | true => rw [e2] at h; cases h; exact .inl ⟨Nat.eq_of_beq_eq_true e2, rfl⟩
      | false =>
        rw [e2] at h
        refine .inr ⟨nb e2, ?_⟩
        show (bif Nat.beq p.1 m then some p.2 else look m l) = _
        rw [Nat.eq_of_beq_eq_true e, e2]; exact h
    | false =>
      rw [e] at h
      have h : (bif Nat.beq p.1 m then some p.2 else look m (putN k v l)) = some u := h
      show _ ∨ (_ ∧ (bif Nat.beq p.1 m then some p.2 else look m l) = _)
      cases e2 : Nat.beq p.1 m with
      | true => rw [e2] at h; exact .inr ⟨fun q => nb e ((Nat.eq_of_beq_eq_true e2).trans q.symm), h⟩
      | false => rw [e2] at h; exact ih h
theorem mem_keys {m : N} {l : List N} (h : keysIn m l = true) : m ∈ l := by
  induction l with
  | nil => cases h
  | cons a l ih =>
    rcases Bool.or_eq_true_iff.mp h with h | h
    · rw [← Nat.eq_of_beq_eq_true h]; exact .head _
    · exact .tail _ (ih h)
section
variable {κ : Kx} {σ : Sg} {Q : Unit → Shared → Prop} {i : Nat} {p : Addr × Addr} {w : Value} {v : V}
theorem set_attr {C m : N} {l : List (N × V)} (g : G κ σ) (hn : noObj m = true) (hp : σ.ft[i]? = some p) (hi : σ.S[i]? = some (.inst C l)) (hm : keysIn m (attrsOf C) = true) (R : Rv κ.Z σ v w)
    (k : ∀ σ', Ext noF σ σ' → G κ σ' → σ'.S = σ.S.set i (.inst C (putN m v l)) → Q () σ'.s) : W κ (setAttr (.ref p.1) m.str w) Q σ.s := by
  obtain ⟨⟨na, nx, lo⟩, mA, J, F⟩ := g.inv.at' hp hi
  have I := J.inst
  obtain ⟨o, i1, i2, i3, i4, i5, i6⟩ := J
  have K := g.ok.cls C na
  obtain ⟨nm, q, bs, sn, sub, col, dd, k0, k1, k2, k3, k5, hC⟩ := (K.at_.keeps g.inv.base).obj
  have hxC : p.1 ≠ κ.c.cad C := fun q => by
    obtain ⟨_, _, _, _, _, _, _, _, _, _, _, _, hC0⟩ := K.at_.obj
    rw [← q, lo] at hC0; cases hC0
  have hw : Within mA ((attrsOf C).map N.str) := fun y hy => by
    obtain ⟨n', e1, e2⟩ := F.only y hy
    exact e1 ▸ List.mem_map.mpr ⟨n', mem_keys e2, rfl⟩
  refine wpG_of (store_attr PySem.F.store_object hC (K.at_.keeps g.inv.base).ns K.sa (K.no m hm) (lk_object hn) hxC I (fun h' tk J' hk hsame => ?_) hw (by rw [List.length_map]; exact Nat.le_trans K.few (by decide)))
  obtain ⟨o1, e1, c1, d1, sl1, dk1⟩ := hsame o i1
  have e1 : h'.get? p.1 = some o := by
    rw [e1]
    have := dk1 p.2 i4
    obtain ⟨c1', d1', t1', s1'⟩ := o1
    obtain ⟨c2, d2, t2, s2⟩ := o
    cases c1; cases d1; cases sl1; cases this; cases i4; rfl
  have kb : ∀ b ob, b ≠ p.2 → σ.s.heap.get? b = some ob → h'.get? b = some ob := fun b ob nb eb => by
    by_cases q : b = p.1
    · rw [q] at eb ⊢; cases i1.symm.trans eb; exact e1
    · exact hk b ob q (fun o₀ dx e₀ ed => by cases i1.symm.trans e₀; cases i4.symm.trans ed; exact nb) eb
  have mv : ∀ {u x}, Rv κ.Z σ u x → RepV (Xs σ.ft κ.Z) σ.ft h' u x := fun R => RepV.move (put_kp hp kb) (fun _ _ _ m => m) (fun _ _ e => e) _ R
  obtain ⟨o2, f1, f2, f3, f4⟩ := J'
  cases e1.symm.trans f1
  rcases f4 with ⟨hn0, _⟩ | ⟨d', hd', hne', hns'⟩
  · cases i4.symm.trans hn0
  · cases i4.symm.trans hd'
    have C : CellAt κ.c (Xs σ.ft κ.Z) σ.ft h' p (.inst C (putN m v l)) := by
      refine ⟨⟨na, nx, lo⟩, _, ⟨o, e1, i2, i3, i4, i5, hns'⟩, fun m' v' hv' => ?_, fun y hy => ?_⟩
      · rcases look_put hv' with ⟨rfl, rfl⟩ | ⟨q, hv'⟩
        · exact ⟨w, if_pos rfl, mv R⟩
        · obtain ⟨w', w1, w2⟩ := F.at_ m' v' hv'
          exact ⟨w', (if_neg fun e => q (N.str_inj e).symm).trans w1, mv w2⟩
      · by_cases q : y = m.str
        · exact ⟨m, q, hm⟩
        · exact F.only y fun e => hy ((if_neg q).trans e)
    obtain ⟨x, I'⟩ := put_ok g.inv hp kb hi (fun l q => nomatch q) C tk
    exact k _ x (g.ext x I') rfl
theorem stored_put {X : Addr → Prop} {ft : Ft} {h : Heap} (k : Key) (Rw : RepV X ft h v w) {l : List (Key × V)} {kvs : List (Key × Value)} (r : RepKs X ft h l kvs) (nd : (kvs.map (·.1)).Nodup) : RepKs X ft h (putK k v l) (stored kvs k w) := by
  induction l generalizing kvs with
  | nil => cases r; exact ⟨_, _, rfl, ⟨rfl, Rw⟩, rfl⟩
  | cons p l ih =>
    obtain ⟨⟨b, u⟩, kvs, rfl, ⟨e, R⟩, r⟩ := r
    obtain ⟨a, y⟩ := p
    obtain rfl : a = b := e
    rw [List.map_cons, List.nodup_cons] at nd
    unfold putK
    by_cases e : a = k
    · cases e
      rw [if_pos rfl]
      have : stored ((k, u) :: kvs) k w = (k, w) :: kvs := by
        unfold stored
        rw [if_pos (by simp), List.map_cons, if_pos rfl, map_store_of_not_mem kvs k w nd.1]
      rw [this]
      exact ⟨_, _, rfl, ⟨rfl, Rw⟩, r⟩
    · rw [if_neg e]
      have : stored ((a, u) :: kvs) k w = (a, u) :: stored kvs k w := by
        unfold stored
        by_cases q : kvs.any (fun kv => decide (kv.1 = k)) = true
        · rw [if_pos (by simp only [List.any_cons, q, Bool.or_true]), if_pos q, List.map_cons, if_neg e]
        · rw [if_neg (by simpa [e] using q), if_neg q]; rfl
      rw [this]
      exact ⟨_, _, rfl, ⟨rfl, R⟩, ih r nd.2⟩
theorem set_item {y : V} {wi : Value} {c : Cell} {P : Cell → Prop} (g : G κ σ) (hp : σ.ft[i]? = some p) (hc : σ.S[i]? = some c) (Ri : Rv κ.Z σ y wi) (R : Rv κ.Z σ v w) (e : putC y v c P)
    (k : ∀ σ' z, Ext noF σ σ' → G κ σ' → σ'.S = σ.S.set i z → P z → Q () σ'.s) : W κ (setItem (.ref p.1) wi w) Q σ.s := by
  have fin : ∀ {z h' t}, Heap.SameBut p.2 σ.s.heap h' → (∀ l, c ≠ .lock l) → CellAt κ.c (Xs σ.ft κ.Z) σ.ft h' p z → P z → Q () { σ.s with heap := h', toks := t } := fun {z h' t} sb hl C e =>
    let q := put_ok g.inv hp (same_kb sb) hc hl C t
    k _ z q.1 (g.ext q.1 q.2) rfl e
  have C := g.inv.at' hp hc
  cases c with
  | lst l =>
    obtain ⟨pe, vs, D, r⟩ := C
    apply asI_el e Ri; intro j t e
    rw [pe]
    have hz := r.length
    refine wpG_of (wpAny_setItem_list D e.1.1 (Int.lt_trans e.1.2.2 (by decide)) (by show j < ((vs.length : Nat) : Int); rw [hz]; exact e.1.2.1) fun h' D' sb => fin (z := .lst (l.set j.toNat v)) (t := σ.s.toks) sb (fun l q => nomatch q) ⟨pe, vs.set j.toNat w, ?_, RepVs.move (put_kp hp (same_kb sb)) (fun _ _ _ m => m) (fun _ _ e => e) (All2.set j.toNat r R)⟩ e.2)
    have q : (Array.mk vs).setIfInBounds j.toNat w = Array.mk (vs.set j.toNat w) := by simp
    exact q ▸ D'
  | dict l =>
    obtain ⟨pe, kvs, D, r⟩ := C
    have main : ∀ q : Key, keyV q wi → (l.length ≤ lim ∧ P (.dict (putK q v l))) → W κ (setItem (.ref p.2) wi w) Q σ.s := fun q hq e =>
      wpG_of (wpAny_setItem_pairs (key_is κ.c.prog κ.c.w q _ hq) D (fun h' D' sb => fin (z := .dict (putK q v l)) sb (fun l q => nomatch q) ⟨pe, _, D', RepKs.move (put_kp hp (same_kb sb)) (fun _ _ _ m => m) (fun _ _ e => e) (stored_put q R r (DictOf.nodupk D))⟩ e.2) (by have h1 := e.1; have : lim = 1000000 := rfl; rw [r.length, sizeLine_eq]; omega))
    rw [pe]
    cases y with
    | loc => exact e.elim
    | d d => cases d with
      | int j => exact main (.i j) Ri e
      | str n => exact main (.s n) Ri e
      | _ => exact e.elim
  | _ => exact e.elim
end
end
section
theorem notComp_swaps {value : PySem.Expr} {env : Env} (h : notComp value = true) (t : Option PySem.Expr) (line : Nat) : swapsWith value t line env = pure false := by
  cases value <;> first | rfl | cases h
section
variable {M : Model} {A : Around} {s : Shared} {env : Env} {pos : Pos} {value : PySem.Expr} {Q : Flow → Shared → Prop}
theorem g_Assign {ts : List PySem.Expr} {t : PySem.Expr} {o : Option (List Str)} (hts : ts = [t]) (hn : notComp value = true) (hs : swappedStores [t] value env = pure o)
    (h : wpG M A (eval value env) (fun v s₁ => wpG M A (assignStores env v o ((assignEach [t] env).map (·.2))) Q s₁) s) : wpG M A (exec (.Assign ts value pos) env) Q s := by
  rw [hts, arm_exec_Assign]
  exact wpG_sat (wpG_eq (show swapsWithSole [t] value pos.line env = pure false from notComp_swaps hn _ _) (wpG_iff rfl (wpG_then h fun _ _ h => wpG_eq hs h)))
theorem g_Expr (hi : env.scope.kind = .function) (hn : notComp value = true) {prog : Program} {w : World} (h : wpG (model prog w) A (eval value env) (fun _ => Q .next) s) : wpG (model prog w) A (exec (.Expr value pos) env) Q s := by
  rw [exec_Expr env value pos (by unfold interactive; rw [hi]; rfl) (notComp_swaps hn _ _)]
  exact wpG_sat (wpG_then h fun v s h => wpG_of (wpAny_dropValue h))
theorem g_If {t : PySem.Expr} {b o : List PySem.Stmt} (h : wpG M A (isTrue t env (eval t env)) (fun c s₂ => if c then wpG M A (execs b env) Q s₂ else wpG M A (execs o env) Q s₂) s) : wpG M A (exec (.If t b o pos) env) Q s := by
  rw [exec_If]
  refine wpG_sat (wpG_then h fun c s₂ h₂ => ?_)
  cases c <;> exact h₂
theorem g_Ret (h : wpG M A (eval value env) (fun v => Q (.ret v)) s) : wpG M A (exec (.Return (some value) pos) env) Q s := by
  rw [exec_Return_some]
  exact wpG_sat (wpG_then h fun _ _ h => wpG_pure h)
theorem g_Try {b : List PySem.Stmt} {h₀ : ExceptHandler} (h : wpG M A (execs b env) Q s) : wpG M A (exec (.Try b [h₀] [] [] pos) env) Q s := by
  rw [arm_exec_Try]
  refine wpG_sat ?_
  unfold tryStmt
  simp only [List.isEmpty_nil, if_true]
  refine wpG_bind (wpG_attempt (wpG_mono h fun f s₁ h₁ => ?_))
  cases f <;> first | exact wpG_pure h₁ | exact wpG_of (wpAny_execs_nil h₁)
theorem g_cons {st : PySem.Stmt} {rest : List PySem.Stmt} (h : wpG M A (exec st env) (fun f s' => Flow.casesOn f (wpG M A (execs rest env) Q s') (Q .brk s') (Q .cont s') (fun v => Q (.ret v) s')) s) : wpG M A (execs (st :: rest) env) Q s := by
  rw [execs_cons]
  refine wpG_then h fun f s' h' => ?_
  cases f <;> first | exact h' | exact wpG_pure h'
end
section
variable {κ : Kt} {r : Slots} {o : OO} {oa : Option Addr} {σ : Sg} {e a : E} {b : S} {l : List S} {nf : Nat → Option Str} {sc : Scope}
theorem decT_el {t : T} {p : PySem.Expr} {env : Env} (h : decT nf sc t p = true) : (∀ v, swappedStores [p] v env = pure none) ∧ ∀ l, assignEach (p :: l) env = (false, assign p env) :: assignEach l env := by
  cases t with
  | var i => apply vName_el h; intro y q _; exact ⟨fun _ => rfl, fun _ => rfl⟩
  | attr a n => apply vAttr_el h; intro v y q _; exact ⟨fun _ => rfl, fun _ => rfl⟩
  | idx a i => apply vSub_el h; intro v s q _; exact ⟨fun _ => rfl, fun _ => rfl⟩
theorem free_of {i : Nat} (h : freeO o i = true) : ∀ p, o = some p → p.1 ≠ i := by
  rintro p rfl q
  have h : (!Nat.beq p.1 i) = true := h
  rw [q, Nat.beq_refl] at h; cases h
theorem tt_var {i : Nat} : TT (.var i) := fun κ p X e r o oa σ v w Q QF s R ev k => by
  apply vName_el e; intro y q e
  obtain ⟨e1, e2⟩ := and_el e
  obtain ⟨hf, ev⟩ := ifT_el ev
  rw [arm_assign_Name]
  exact wpG_sat (wpG_of (wpAny_bindName (store_var X.toFy (X.bs _) s (beq_iff_eq.mp e1) e2 (free_of hf) R fun σ' s' m eS => k _ σ' s' m (eS.S ▸ ev))))
theorem tt_attr {n : N} (ha : Snd a) : TT (.attr a n) := fun κ p X e r o oa σ v w Q QF s R ev k => by
  apply vAttr_el e; intro x y q e
  obtain ⟨e1, e2⟩ := and_el e
  obtain ⟨e1, e3⟩ := and_el e1
  apply dec_el (C := fun y => Wt κ (assign (.Attribute x y q) κ.env w) QF σ.s) e1
  rw [arm_assign_Attribute]
  refine wpG_hold ((ha (κ.e r oa) x e2).1 σ _ _ (s.g X.toFy) ev fun w1 u σ1 x1 g1 R1 ev => ?_) fun w1 s h => wpG_sat (wpG_then (wpG_holding h) fun _ _ h => h)
  apply asA_el ev R1; intro i p hp ev
  obtain ⟨z, hz, ev⟩ := ev.h
  obtain ⟨D, l, rfl, _, _, ev⟩ := asInst_el (g1.inv.at' hp hz) ev
  obtain ⟨hm, ev⟩ := ifT_el ev
  refine set_attr g1 e3 hp hz hm (x1.rv R) fun σ2 x2 g2 eS => wpG_of (wpAny_release' ?_)
  have x12 := x1.trans x2
  exact k _ _ (s.step X.toFy x12 g2) (fun v w R => x12.rv R) (eS ▸ ev)
theorem tt_idx {b : E} (ha : Snd a) (hb : Snd b) : TT (.idx a b) := fun κ p X e r o oa σ v w Q QF s R ev k => by
  apply vSub_el e; intro x y q e
  obtain ⟨e1, e⟩ := and_el e
  obtain ⟨e2, e3⟩ := and_el e
  rw [arm_assign_Subscript]
  refine wpG_hold ((ha (κ.e r oa) x e2).1 σ _ _ (s.g X.toFy) ev fun w1 u σ1 x1 g1 R1 ev => ?_) fun w1 s h => h
  refine wpG_hold ((hb (κ.e r oa) y e3).1 σ1 _ _ g1 ev fun w2 u2 σ2 x2 g2 R2 ev => ?_) fun w2 s h => wpG_sat (wpG_then (wpG_holding h) fun _ _ h => h)
  have x12 := x1.trans x2
  apply asA_el ev (x2.rv R1); intro i p hp ev
  obtain ⟨z, hz, ev⟩ := ev.h
  refine set_item g2 hp hz R2 (x12.rv R) ev fun σ3 z x3 g3 eS ev => wpG_of (wpAny_release' ?_)
  have x13 := x12.trans x3
  exact k _ _ (s.step X.toFy x13 g3) (fun v w R => x13.rv R) (eS ▸ ev)
theorem snd_t (h : ∀ a, Snd a) (t : T) : TT t := by
  cases t with
  | var i => exact tt_var
  | attr a n => exact tt_attr (h a)
  | idx a b => exact tt_idx (h a) (h b)
theorem ss_asg {t : T} (ht : TT t) (he : Snd e) : SS (.asg t e) := fun κ p X e r o oa σ Q R QF s ev k => by
  apply vAsg_el e; intro ts v pos e
  apply on1_el e; intro q e
  obtain ⟨e1, e⟩ := and_el e
  obtain ⟨e2, e3⟩ := and_el e
  obtain ⟨h1, h2⟩ := decT_el (env := κ.env) e2
  refine g_Assign rfl e1 (h1 _) ((he (κ.e r oa) v e3).1 σ _ _ (s.g X.toFy) ev fun w u σ1 x1 g1 R1 ev => ?_)
  rw [h2]
  exact wpG_then (ht κ q X e2 r o oa σ1 u w _ (fun _ => QF .next) (s.step X.toFy x1 g1) R1 ev fun r' σ2 s2 _ ev => k.nx _ _ _ _ s2 ev) fun _ _ h => wpG_pure h
theorem ss_ex (he : Snd e) : SS (.ex e) := fun κ p X e r o oa σ Q R QF s ev k => by
  apply vEx_el e; intro v pos e
  obtain ⟨e1, e2⟩ := and_el e
  exact g_Expr X.ev.kind e1 ((he (κ.e r oa) v e2).1 σ _ _ (s.g X.toFy) ev fun w u σ1 x1 g1 R1 ev => k.nx _ _ _ _ (s.step X.toFy x1 g1) ev)
theorem ss_iff {c : E} {a b : List S} (hc : Snd c) (ha : SB a) (hb : SB b) : SS (.iff c a b) := fun κ p X e r o oa σ Q R QF s ev k => by
  apply vIfS_el e; intro t y z pos e
  obtain ⟨e1, e⟩ := and_el e
  obtain ⟨e2, e3⟩ := and_el e
  refine g_If ((hc (κ.e r oa) t e1).2 σ (fun t s => Br t (wB (callF κ.n) a r o s Q R) (wB (callF κ.n) b r o s Q R)) _ (s.g X.toFy) ev fun t σ1 x1 g1 ev => ?_)
  cases t with
  | true => exact ha κ y X e2 r o oa σ1 Q R QF (s.step X.toFy x1 g1) ev k
  | false => exact hb κ z X e3 r o oa σ1 Q R QF (s.step X.toFy x1 g1) ev k
theorem ss_ret (he : Snd e) : SS (.ret e) := fun κ p X e r o oa σ Q R QF s ev k => by
  apply vRet_el e; intro v pos e
  cases v with
  | none => cases e
  | some v => exact g_Ret ((he (κ.e r oa) v e).1 σ _ _ (s.g X.toFy) ev fun w u σ1 x1 g1 R1 ev => k.rt _ _ _ _ _ _ (s.step X.toFy x1 g1) R1 ev)
theorem ss_retn : SS .retn := fun κ p X e r o oa σ Q R QF s ev k => by
  apply vRet_el e; intro v pos e
  cases v with
  | some v => cases e
  | none => exact wpG_of (wpAny_Return_none (k.rt _ (.d .none) _ _ _ _ s (Eq.refl Value.none) ev))
theorem ss_try {b : List S} (hb : SB b) : SS (.try b) := fun κ p X e r o oa σ Q R QF s ev k => by
  apply vTry_el e; intro y h z f pos e
  obtain ⟨e1, e2⟩ := and_el e
  obtain ⟨e1, e3⟩ := and_el e1
  obtain ⟨e3, e4⟩ := and_el e3
  have m := hb κ y X e2 r o oa σ Q R QF s ev k
  apply on1_el (C := fun h => Wt κ (exec (.Try y h z f pos) κ.env) QF σ.s) e1; intro h _
  cases List.isEmpty_iff.mp e3
  cases List.isEmpty_iff.mp e4
  exact g_Try m
theorem sb_nil : SB [] := fun κ p X e r o oa σ Q R QF s ev k => by
  cases List.isEmpty_iff.mp e
  exact wpG_of (wpAny_execs_nil (k.nx _ _ _ _ s ev))
theorem sb_cons (ha : SS b) (hl : SB l) (nf : Nat.beq b.ctorIdx 18 = false) : SB (b :: l) := fun κ ps X e r o oa σ Q R QF s ev k => by
  have e : (bif Nat.beq b.ctorIdx 18 then decB κ.nf κ.env.scope l ps else ps.casesOn false fun x r => decS κ.nf κ.env.scope b x && decB κ.nf κ.env.scope l r) = true := e
  rw [nf] at e
  cases ps with
  | nil => cases e
  | cons p ps =>
    obtain ⟨e1, e2⟩ := and_el e
    exact g_cons (ha κ p X e1 r o oa σ _ R _ s ev ⟨fun r o oa σ s ev => hl κ ps X e2 r o oa σ Q R QF s ev k, fun w v r o oa σ s Rv ev => k.rt _ _ _ _ _ _ s Rv ev⟩)
theorem sb_frz (hl : SB l) : SB (.frz :: l) := fun κ ps X e r o oa σ Q R QF s ev k => by
  cases o with
  | none => exact ev.elim
  | some p =>
    obtain ⟨i, w⟩ := p
    cases w with
    | byt d => exact ev.elim
    | lst d =>
      obtain ⟨a, rfl, h1, h2, x, h3, h4, vs, h5, h6⟩ := s.own
      have sub : ∀ b, Xs σ.ft (ZO κ.Z none) b → Xs σ.ft (ZO κ.Z (some a)) b := fun b m => m.imp id fun z => z.elim .inl fun q => nomatch q
      have na : ¬ Xs σ.ft (ZO κ.Z none) a := fun m => m.elim (s.inv.zm a (.inr rfl)) fun z => z.elim h1 fun q => nomatch q
      have mv : ∀ v w, Rv (ZO κ.Z (some a)) σ v w → Rv (ZO κ.Z none) σ v w := fun v w R => RepV.move (Kp.refl _ _) (fun b _ _ m => sub b m) (fun _ _ e => e) v R
      have Rl : Rv (ZO κ.Z none) σ (.d (.lst d)) (.ref a) := ⟨a, vs, rfl, h5, na, .of (h6.imp fun d w R => mv (.d d) w R)⟩
      have I := s.inv
      refine hl κ ps X e (slotSet r i (.d (.lst d))) none none σ Q R QF ⟨s.ext, ⟨I.base, I.len, fun j p y e1 e2 => ?_, I.nd, fun b z => ?_, I.mb, fun b z => ?_, fun b z => ?_, I.nsy⟩, fun j u y q1 q2 q3 => ?_, s.frm, rfl, fun _ q => nomatch q⟩ ev k
      · exact (I.cells j p y e1 e2).move (Kp.refl _ _) (fun b _ _ m => sub b m) (fun _ _ e => e) rfl
      · exact I.zm b (.inl (z.resolve_right fun q => nomatch q))
      · exact I.zb b (.inl (z.resolve_right fun q => nomatch q))
      · exact I.zs b (.inl (z.resolve_right fun q => nomatch q))
      · rcases slot_set q1 with ⟨rfl, rfl⟩ | ⟨nj, q1⟩
        · cases h3.symm.trans q2
          exact ⟨_, h4, Rl⟩
        · obtain ⟨w, w1, w2⟩ := s.locs j u y q1 q2 q3
          exact ⟨w, w1, mv u w w2⟩
end
end
section
theorem slotSet_comm {r : Slots} {i j : Nat} {v w : V} (n : i ≠ j) : slotSet (slotSet r i v) j w = slotSet (slotSet r j w) i v := by
  induction r generalizing i j with
  | nil => rfl
  | cons a r ih => cases i with
    | zero => cases j with
      | zero => exact absurd rfl n
      | succ j => rfl
    | succ i => cases j with
      | zero => rfl
      | succ j => exact congrArg (a :: ·) (ih fun q => n (congrArg _ q))
theorem setVs_push {is : List Nat} {vs : List V} {r : Slots} {i : Nat} {v : V} (n : i ∉ is) : setVs is vs (slotSet r i v) = slotSet (setVs is vs r) i v := by
  induction is generalizing vs r with
  | nil => rfl
  | cons j is ih => cases vs with
    | nil => rfl
    | cons w vs =>
      show setVs is vs (slotSet (slotSet r i v) j w) = slotSet (setVs is vs (slotSet r j w)) i v
      rw [slotSet_comm (fun (q : i = j) => n (by rw [q]; exact .head _)), ih fun m => n (.tail _ m)]
theorem setVs_app {is js : List Nat} {vs us : List V} {r : Slots} (h : is.length = vs.length) : setVs (is ++ js) (vs ++ us) r = setVs js us (setVs is vs r) := by
  induction is generalizing vs r with
  | nil => cases vs with
    | nil => rfl
    | cons => cases h
  | cons i is ih => cases vs with
    | nil => cases h
    | cons v vs => exact ih (Nat.succ.inj h)
theorem setVs_rev {is : List Nat} {vs : List V} {r : Slots} (nd : is.Nodup) (h : is.length = vs.length) : setVs is.reverse vs.reverse r = setVs is vs r := by
  induction is generalizing vs r with
  | nil => cases vs with
    | nil => rfl
    | cons => cases h
  | cons i is ih => cases vs with
    | nil => cases h
    | cons v vs =>
      rw [List.nodup_cons] at nd
      rw [List.reverse_cons, List.reverse_cons, setVs_app (by rw [List.length_reverse, List.length_reverse]; exact Nat.succ.inj h), ih nd.2 (Nat.succ.inj h)]
      exact (setVs_push nd.1).symm
theorem nodupNat_nodup {l : List Nat} (h : nodupNat l = true) : l.Nodup := by
  induction l with
  | nil => exact List.nodup_nil
  | cons a l ih =>
    obtain ⟨h1, h2⟩ := and_el h
    refine List.nodup_cons.mpr ⟨fun m => ?_, ih h2⟩
    rw [List.contains_iff_mem.mpr m] at h1; cases h1
theorem All2.rev {α β : Type} {R : α → β → Prop} {l : List α} {ws : List β} (h : All2 R l ws) : All2 R l.reverse ws.reverse := by
  induction l generalizing ws with
  | nil => cases h; exact rfl
  | cons a l ih =>
    obtain ⟨w, r, rfl, x, h⟩ := h
    rw [List.reverse_cons, List.reverse_cons]
    exact All2.append ⟨w, [], rfl, x, rfl⟩ (ih h)
def IsName (x : Str) (p : PySem.Expr) : Prop := ∃ q, p = .Name x q
theorem decVs_el {nf : Nat → Option Str} {sc : Scope} {is : List Nat} {ps : List PySem.Expr} (h : decVs nf sc is ps = true) : ∃ xs, All2 (fun i x => varOk sc nf i x = true) is xs ∧ All2 IsName xs ps := by
  induction is generalizing ps with
  | nil => cases List.isEmpty_iff.mp h; exact ⟨[], rfl, rfl⟩
  | cons i is ih => cases ps with
    | nil => cases h
    | cons p ps =>
      obtain ⟨h1, h2⟩ := and_el h
      obtain ⟨xs, a, b⟩ := ih h2
      apply vName_el (C := fun p => ∃ xs, All2 (fun i x => varOk sc nf i x = true) (i :: is) xs ∧ All2 IsName xs (p :: ps)) h1
      intro y q h1
      exact ⟨y :: xs, ⟨y, xs, rfl, h1, a⟩, ⟨_, _, rfl, ⟨q, rfl⟩, b⟩⟩
theorem names_each {env : Env} {xs : List Str} {ps : List PySem.Expr} (h : All2 IsName xs ps) : (assignEach ps env).findIdx? (·.1) = none ∧ (assignEach ps env).map (·.2) = ps.map fun p => assign p env := by
  induction xs generalizing ps with
  | nil => cases h; exact ⟨rfl, rfl⟩
  | cons x xs ih =>
    obtain ⟨p, ps, rfl, ⟨q, rfl⟩, h⟩ := h
    obtain ⟨h1, h2⟩ := ih h
    refine ⟨?_, congrArg _ h2⟩
    show List.findIdx? (·.1) ((false, _) :: assignEach ps env) = none
    rw [List.findIdx?_cons, h1]; rfl
theorem filt_names (g : Str → Pos → Bool) {xs : List Str} {ps : List PySem.Expr} (h : All2 IsName xs ps) :
    (ps.filterMap fun e => match e with | .Name id pos => if g id pos = true then some id else none | _ => none).length ≤ ps.length ∧
    ((ps.filterMap fun e => match e with | .Name id pos => if g id pos = true then some id else none | _ => none).length = ps.length → (ps.filterMap fun e => match e with | .Name id pos => if g id pos = true then some id else none | _ => none) = xs) := by
  induction xs generalizing ps with
  | nil => cases h; exact ⟨Nat.le_refl _, fun _ => rfl⟩
  | cons x xs ih =>
    obtain ⟨p, ps, rfl, ⟨q, rfl⟩, h⟩ := h
    obtain ⟨h1, h2⟩ := ih h
    by_cases e : g x q = true
    · simp only [List.filterMap_cons, if_pos e, List.length_cons]
      exact ⟨Nat.succ_le_succ h1, fun h => by rw [h2 (Nat.succ.inj h)]⟩
    · simp only [List.filterMap_cons, if_neg e, List.length_cons]
      exact ⟨Nat.le_succ_of_le h1, fun h => absurd (h ▸ h1) (Nat.not_succ_le_self _)⟩
theorem swapped_names {env : Env} {xs : List Str} {ps vs : List PySem.Expr} {k k' : Nat} {p p' : Pos} (q : All2 IsName xs ps) (hc : (!vs.all (constantsAlone 8)) = true) :
    swappedStores [.Tuple ps k p] (.Tuple vs k' p') env = pure none ∨ swappedStores [.Tuple ps k p] (.Tuple vs k' p') env = pure (some xs) := by
  have hc := (Bool.not_eq_true' _).mp hc
  unfold swappedStores
  dsimp only
  split
  · exact .inl rfl
  · split
    · exact .inl rfl
    · split
      · exact .inl rfl
      · rename_i h
        split
        · exact .inl rfl
        · refine .inr ?_
          rw [if_neg (by rw [hc]; exact Bool.false_ne_true)]
          have := (filt_names (fun id pos => env.kindOf id == some .local && pos.line == (ps.head?.map (·.pos.line)).getD 0) q).2
          simp only [Bool.or_eq_true, bne_iff_ne, ne_eq, not_or, Decidable.not_not] at h
          have e := this h.1
          show pure _ = _
          exact congrArg (fun z => pure (some z)) e
theorem keep_of {h h' : Heap} (x : Heap.ExtBut h.objs.size h h') (b : Addr) (o : Obj) (e : h.get? b = some o) : h'.get? b = some o := x b o (Nat.ne_of_lt (Heap.lt_size e)) e
section
variable {κ : Kt} {r : Slots} {o : OO} {oa : Option Addr} {σ : Sg} {is : List Nat} {vs : List V} {ws : List Value} {xs : List Str} {ps : List PySem.Expr}
def St1 (κ : Kt) (i : Nat) (f : Value → Sem Unit) : Prop := ∃ x, κ.nf i = some x ∧ isVar (κ.env.scope.names.lookup x) = true ∧ Bs κ x ∧ ∀ v Q s, Wta κ (storeName κ.env x v) Q s → Wta κ (f v) Q s
theorem varOk_el {nf : Nat → Option Str} {sc : Scope} {i : Nat} {x : Str} (h : varOk sc nf i x = true) : nf i = some x ∧ isVar (sc.names.lookup x) = true := (and_el h).imp_left beq_iff_eq.mp
theorem st_each (bs : ∀ x ∈ xs, Bs κ x) (a : All2 (fun i x => varOk κ.env.scope κ.nf i x = true) is xs) (b : All2 IsName xs ps) : All2 (St1 κ) is (ps.map fun p => assign p κ.env) := by
  induction is generalizing xs ps with
  | nil => cases a; cases b; exact rfl
  | cons i is ih =>
    obtain ⟨x, xs, rfl, h, a⟩ := a
    obtain ⟨p, ps, rfl, ⟨q, rfl⟩, b⟩ := b
    exact ⟨_, _, rfl, ⟨x, (varOk_el h).1, (varOk_el h).2, bs _ (.head _), fun v Q s h => wpAny_assign_Name h⟩, ih (fun x m => bs x (.tail _ m)) a b⟩
theorem st_bind (bs : ∀ x ∈ xs, Bs κ x) (a : All2 (fun i x => varOk κ.env.scope κ.nf i x = true) is xs) : All2 (St1 κ) is (xs.map fun x => bindName κ.env x) := by
  induction is generalizing xs with
  | nil => cases a; exact rfl
  | cons i is ih =>
    obtain ⟨x, xs, rfl, h, a⟩ := a
    exact ⟨_, _, rfl, ⟨x, (varOk_el h).1, (varOk_el h).2, bs _ (.head _), fun v Q s h => wpAny_bindName h⟩, ih (fun x m => bs x (.tail _ m)) a⟩
theorem store_vars (X : Fy κ) {fs : List (Value → Sem Unit)} {Q : Unit → Shared → Prop} (h : All2 (St1 κ) is fs) (s : Sr κ r o oa σ) (ho : ∀ i ∈ is, ∀ p, o = some p → p.1 ≠ i) (R : Rvs (ZO κ.Z oa) σ vs ws) (hl : is.length = vs.length)
    (k : ∀ σ', Sr κ (setVs is vs r) o oa σ' → Same κ σ σ' → Q () σ'.s) : Wta κ (assignInOrder fs ws) Q σ.s := by
  induction is generalizing fs vs ws r σ with
  | nil =>
    cases h
    exact wpAny_assignInOrder_none (k σ s ⟨rfl, rfl, fun _ _ _ e => e⟩)
  | cons i is ih => cases vs with
    | nil => cases hl
    | cons v vs =>
      obtain ⟨f, fs, rfl, ⟨x, h1, h2, bs, h3⟩, h⟩ := h
      obtain ⟨w, ws, rfl, R1, R⟩ := R
      refine wpAny_assignInOrder_more (h3 _ _ _ (store_var X bs s h1 h2 (ho i (.head _)) R1 fun σ1 s1 m e => ?_))
      exact ih h s1 (fun j hj => ho j (.tail _ hj)) (R.imp m) (Nat.succ.inj hl) fun σ2 s2 e2 => k σ2 s2 (e.trans e2)
theorem tup_assign {a : Addr} {k : Nat} {p : Pos} {Q : Unit → Shared → Prop} (q2 : All2 IsName xs ps) (len : ws.length = xs.length)
    (hu : ∀ (Q : List Value → Shared → Prop), (∀ h', (∀ b o, σ.s.heap.get? b = some o → h'.get? b = some o) → Q ws { σ.s with heap := h' }) → Wta κ (unpackItems (.ref a) ws.length none) Q σ.s)
    (k1 : ∀ h', (∀ b o, σ.s.heap.get? b = some o → h'.get? b = some o) → Wta κ (assignInOrder (ps.map fun p => assign p κ.env) ws) Q { σ.s with heap := h' }) : Wta κ (assign (.Tuple ps k p) κ.env (.ref a)) Q σ.s := by
  unfold Wta
  rw [arm_assign_Tuple]
  refine wpAny_bind (wpAny_standAt ?_)
  unfold unpack
  have hn := names_each (env := κ.env) q2
  have hz : (assignEach ps κ.env).length = ws.length := by
    rw [← List.length_map (f := (·.2)), hn.2, List.length_map, len, q2.length]
  rw [hz, hn.1, hn.2]
  exact wpAny_bind (wpAny_holding (hu _ k1))
theorem spread0 {a : Addr} {so : Option (List Str)} {k : Nat} {p : Pos} {Q : Flow → Shared → Prop} (q2 : All2 IsName xs ps) (ho : so = none ∨ so = some xs) (len : ws.length = xs.length)
    (hu : ∀ (Q : List Value → Shared → Prop), (∀ h', (∀ b o, σ.s.heap.get? b = some o → h'.get? b = some o) → Q ws { σ.s with heap := h' }) → Wta κ (unpackItems (.ref a) ws.length none) Q σ.s)
    (k1 : ∀ h', (∀ b o, σ.s.heap.get? b = some o → h'.get? b = some o) → Wta κ (assignInOrder (ps.map fun p => assign p κ.env) ws) (fun _ => Q .next) { σ.s with heap := h' })
    (k2 : ∀ h', (∀ b o, σ.s.heap.get? b = some o → h'.get? b = some o) → so = some xs → Wta κ (assignInOrder (xs.reverse.map fun n => bindName κ.env n) ws.reverse) (fun _ => Q .next) { σ.s with heap := h' }) :
    Wt κ (assignStores κ.env (.ref a) so ((assignEach [.Tuple ps k p] κ.env).map (·.2))) Q σ.s := by
  rcases ho with rfl | rfl
  · show wpG _ _ (do assignAll (.ref a) [assign (.Tuple ps k p) κ.env]; pure Flow.next) _ _
    exact wpG_then (Q := fun _ => Q .next) (wpG_of (tup_assign q2 len hu k1)) fun _ _ h => wpG_pure h
  · show wpG _ _ (do rule "assign.swapped-stores"; let items ← unpackItems (.ref a) xs.length none; assignInOrder (xs.reverse.map fun n => bindName κ.env n) items.reverse; pure Flow.next) _ _
    refine wpG_bind (wpG_of (wpAny_rule ?_))
    rw [← len]
    refine wpG_any (hu _ fun h' kp => k2 h' kp rfl) fun _ _ h => wpG_any h fun _ _ h => wpG_pure h
theorem spread {a : Addr} {so : Option (List Str)} {k : Nat} {p : Pos} {Q : Flow → Shared → Prop} (X : Fx κ) (q1 : All2 (fun i x => varOk κ.env.scope κ.nf i x = true) is xs) (q2 : All2 IsName xs ps) (ho : so = none ∨ so = some xs) (nd : so = none ∨ is.Nodup)
    (hu : ∀ (Q : List Value → Shared → Prop), (∀ h', (∀ b o, σ.s.heap.get? b = some o → h'.get? b = some o) → Q ws { σ.s with heap := h' }) → Wta κ (unpackItems (.ref a) ws.length none) Q σ.s)
    (s : Sr κ r o oa σ) (hf : is.all (freeO o) = true) (R : Rvs (ZO κ.Z oa) σ vs ws) (hl : is.length = vs.length)
    (kk : ∀ σ', Sr κ (setVs is vs r) o oa σ' → σ'.S = σ.S → Q .next σ'.s) : Wt κ (assignStores κ.env (.ref a) so ((assignEach [.Tuple ps k p] κ.env).map (·.2))) Q σ.s := by
  have free : ∀ i ∈ is, ∀ p, o = some p → p.1 ≠ i := fun i hi => free_of (List.all_eq_true.mp hf i hi)
  have grow : ∀ h', (∀ b o, σ.s.heap.get? b = some o → h'.get? b = some o) → Sr κ r o oa (σ.to h' σ.s.toks) ∧ Rvs (ZO κ.Z oa) (σ.to h' σ.s.toks) vs ws := fun h' kp =>
    let x := grow_ok (F := noF) s.inv kp σ.s.toks
    ⟨s.step X.toFy x.1 ((s.g X.toFy).ext x.1 x.2), x.1.rvs R⟩
  refine spread0 q2 ho (R.length.trans (hl.symm.trans q1.length.symm)) hu (fun h' kp => ?_) fun h' kp e => ?_
  · obtain ⟨s1, R1⟩ := grow h' kp
    exact store_vars X.toFy (st_each (fun x _ => X.bs x) q1 q2) s1 free R1 hl fun σ2 s2 e => kk σ2 s2 e.S
  · obtain ⟨s1, R1⟩ := grow h' kp
    refine store_vars X.toFy (st_bind (fun x _ => X.bs x) q1.rev) s1 (fun i hi => free i (List.mem_reverse.mp hi)) R1.rev (by rw [List.length_reverse, List.length_reverse]; exact hl) fun σ2 s2 e2 => ?_
    rw [setVs_rev (nd.resolve_left fun q => by rw [q] at e; cases e) hl] at s2
    exact kk σ2 s2 e2.S
end
section
variable {κ : Kt} {is : List Nat} {es : List E} {e : E}
theorem new_tuple {κ : Kx} {σ : Sg} {ws : List Value} {Q : Value → Shared → Prop} (g : G κ σ) (hz : ws.length ≤ 1000) (k : ∀ h' , (∀ b o, σ.s.heap.get? b = some o → h'.get? b = some o) → IsTup h' σ.s.heap.objs.size (Array.mk ws) → Q (.ref σ.s.heap.objs.size) { σ.s with heap := h' }) : W κ (newTuple ws) Q σ.s :=
  wpG_of (wpAny_newTuple (k _ (push_kk _) ⟨_, Heap.get?_push_size _ rfl, rfl, _, rfl⟩) (Nat.le_trans hz (by decide)))
theorem ss_parV (hl : SndL es) : SS (.parV is es) := fun κ p X e r o oa σ Q R QF s ev k => by
  apply vAsg_el e; intro ts v pos e
  apply on1_el e; intro t e
  apply vTup_el e; intro ps k1 p1 e
  apply vTup_el e; intro vs k2 p2 e
  obtain ⟨e1, e⟩ := and_el e
  obtain ⟨e1, e2⟩ := and_el e1
  obtain ⟨e2, e3⟩ := and_el e2
  obtain ⟨e4, e5⟩ := and_el e
  obtain ⟨xs, q1, q2⟩ := decVs_el e4
  have main : ∀ so, (so = none ∨ so = some xs) → swappedStores [.Tuple ps k1 p1] (.Tuple vs k2 p2) κ.env = pure so → Wt κ (exec (.Assign [.Tuple ps k1 p1] (.Tuple vs k2 p2) pos) κ.env) QF σ.s := fun so hoo hs => by
    refine g_Assign rfl rfl hs (g_Tuple (hl.sl (κ.e r oa) vs e5 _ σ _ _ (s.g X.toFy) ev fun ws us σ1 x1 g1 R1 hz ev => ?_))
    obtain ⟨hc, ev⟩ := ifT_el ev
    obtain ⟨hc, hn⟩ := and_el hc
    refine new_tuple g1 (by rw [hz]; exact Nat.le_trans (of_decide_eq_true e1) (by decide)) fun h' kk ht => ?_
    have x2 := grow_ok (F := noF) g1.inv kk σ1.s.toks
    have x12 := x1.trans x2.1
    exact spread (σ := σ1.to h' σ1.s.toks) X q1 q2 hoo (.inr (nodupNat_nodup e2)) (fun Q hQ => unpackItems_tuple X.bud.hd ht fun h' x => hQ h' (keep_of x)) (s.step X.toFy x12 (g1.ext x2.1 x2.2)) hc (x2.1.rvs R1) (Nat.eq_of_beq_eq_true hn) fun σ2 s2 e => k.nx _ _ _ _ s2 (e ▸ ev)
  rcases swapped_names (env := κ.env) (k := k1) (k' := k2) (p := p1) (p' := p2) q2 e3 with hs | hs
  · exact main none (.inl rfl) hs
  · exact main (some xs) (.inr rfl) hs
theorem swap_none {v : PySem.Expr} {ps : List PySem.Expr} {k : Nat} {p : Pos} {env : Env} (h : (v.ctorIdx != 25) = true) : swappedStores [.Tuple ps k p] v env = pure none := by cases v <;> first | rfl | cases h
theorem ss_unp (he : Snd e) : SS (.unp is e) := fun κ p X e r o oa σ Q R QF s ev k => by
  apply vAsg_el e; intro ts v pos e
  apply on1_el e; intro t e
  apply vTup_el e; intro ps k1 p1 e
  obtain ⟨e1, e⟩ := and_el e
  obtain ⟨e1, e2⟩ := and_el e1
  obtain ⟨e2, e3⟩ := and_el e2
  obtain ⟨e4, e5⟩ := and_el e
  obtain ⟨xs, q1, q2⟩ := decVs_el e4
  refine g_Assign rfl e1 (swap_none e3) ((he (κ.e r oa) v e5).1 σ _ _ (s.g X.toFy) ev fun w u σ1 x1 g1 R1 ev => ?_)
  have s1 := s.step X.toFy x1 g1
  have fin : ∀ {a : Addr} {ws : List Value} {l : List D}, (ifT (is.all (freeO o)) (is.length = l.length ∧ Q (setVs is (l.map .d) r) o σ1.S)) → Reps (Xs σ1.ft (ZO κ.Z oa)) σ1.s.heap l ws → (∀ (Q : List Value → Shared → Prop), (∀ h', (∀ b o, σ1.s.heap.get? b = some o → h'.get? b = some o) → Q ws { σ1.s with heap := h' }) → Wta κ (unpackItems (.ref a) ws.length none) Q σ1.s) →
      Wt κ (assignStores κ.env (.ref a) none ((assignEach [.Tuple ps k1 p1] κ.env).map (·.2))) QF σ1.s := fun ev Rl hu => by
    obtain ⟨hf, hn, ev⟩ := ifT_el ev
    exact spread X q1 q2 (.inl rfl) (.inl rfl) hu s1 hf (All2.map .d Rl.all) (by rw [List.length_map]; exact hn) fun σ2 s2 e => k.nx _ _ _ _ s2 (e ▸ ev)
  apply asD_el ev R1; intro d _ R1 ev
  cases d with
  | tup l =>
    obtain ⟨a, ws, rfl, p, _, Rl⟩ := R1
    exact fin ev Rl fun Q hQ => unpackItems_tuple X.bud.hd p.isTup fun h' x => hQ h' (keep_of x)
  | lst l =>
    obtain ⟨a, ws, rfl, p, _, Rl⟩ := R1
    exact fin ev Rl fun Q hQ => kun_itemsOf X.bud.hd p.isList fun h' x => hQ h' (keep_of x)
  | _ => exact ev.elim
end
end
section
theorem filt_less (g : Str → Pos → Bool) {ps : List PySem.Expr} : (ps.filterMap fun e => match e with | .Name id pos => if g id pos = true then some id else none | _ => none).length ≤ ps.length ∧
    ((ps.any fun p => p.ctorIdx != 23) = true → (ps.filterMap fun e => match e with | .Name id pos => if g id pos = true then some id else none | _ => none).length < ps.length) := by
  induction ps with
  | nil => exact ⟨Nat.le_refl _, fun h => nomatch h⟩
  | cons e ps ih =>
    obtain ⟨h1, h2⟩ := ih
    by_cases hn : (e.ctorIdx != 23) = true
    · have : (match e with | .Name id pos => if g id pos = true then some id else none | _ => none) = none := by
        cases e <;> first | rfl | cases hn
      rw [List.filterMap_cons, this]
      exact ⟨Nat.le_succ_of_le h1, fun _ => Nat.lt_succ_of_le h1⟩
    · have h3 : ((e :: ps).any fun p => p.ctorIdx != 23) = true → (ps.any fun p => p.ctorIdx != 23) = true := fun h => (Bool.or_eq_true_iff.mp h).resolve_left hn
      rw [List.filterMap_cons]
      split
      · exact ⟨Nat.le_succ_of_le h1, fun h => Nat.lt_succ_of_lt (h2 (h3 h))⟩
      · exact ⟨Nat.succ_le_succ h1, fun h => Nat.succ_lt_succ (h2 (h3 h))⟩
theorem swapped_mixed {env : Env} {ps vs : List PySem.Expr} {k k' : Nat} {p p' : Pos} (h : (ps.any fun p => p.ctorIdx != 23) = true) : swappedStores [.Tuple ps k p] (.Tuple vs k' p') env = pure none := by
  unfold swappedStores
  dsimp only
  split
  · rfl
  · split
    · rfl
    · split
      · rfl
      · rename_i q
        exfalso
        have := (filt_less (fun id pos => env.kindOf id == some .local && pos.line == (ps.head?.map (·.pos.line)).getD 0) (ps := ps)).2 h
        simp only [Bool.or_eq_true, bne_iff_ne, ne_eq, not_or, Decidable.not_not] at q
        exact Nat.lt_irrefl _ (Nat.lt_of_lt_of_eq this q.1.symm)
section
variable {κ : Kt} {r : Slots} {o : OO} {oa : Option Addr} {σ : Sg} {ts : List T} {es : List E} {e a b : E} {vs : List V} {ws : List Value} {ps : List PySem.Expr}
theorem decTs_each {nf : Nat → Option Str} {sc : Scope} {env : Env} (h : decTs nf sc ts ps = true) : (assignEach ps env).length = ts.length ∧ (assignEach ps env).findIdx? (·.1) = none := by
  induction ts generalizing ps with
  | nil => cases List.isEmpty_iff.mp h; exact ⟨rfl, rfl⟩
  | cons t ts ih => cases ps with
    | nil => cases h
    | cons p ps =>
      obtain ⟨h1, h2⟩ := and_el h
      rw [(decT_el h1).2]
      obtain ⟨h3, h4⟩ := ih h2
      refine ⟨congrArg (· + 1) h3, ?_⟩
      rw [List.findIdx?_cons, h4]; rfl
theorem decL_len {nf : Nat → Option Str} {sc : Scope} (h : decL nf es sc ps = true) : es.length = ps.length := by
  induction es generalizing ps with
  | nil => cases List.isEmpty_iff.mp h; rfl
  | cons e es ih => cases ps with
    | nil => cases h
    | cons p ps => exact congrArg (· + 1) (ih (and_el (and_el h).2).2)
theorem tts_seq (X : Fx κ) (ht : ∀ t, TT t) {Q : KS} {QF : Unit → Shared → Prop} (h : decTs κ.nf κ.env.scope ts ps = true) (s : Sr κ r o oa σ) (R : Rvs (ZO κ.Z oa) σ vs ws) (ev : putsP (callF κ.n) o ts vs r σ.S Q)
    (k : ∀ r' σ', Sr κ r' o oa σ' → Q r' σ'.S → QF () σ'.s) : Wt κ (assignInOrder ((assignEach ps κ.env).map (·.2)) ws) QF σ.s := by
  induction ts generalizing ps vs ws r σ with
  | nil =>
    cases List.isEmpty_iff.mp h
    cases vs with
    | nil => cases R; exact wpG_of (wpAny_assignInOrder_none (k r σ s ev))
    | cons => exact ev.elim
  | cons t ts ih => cases ps with
    | nil => cases h
    | cons p ps =>
      obtain ⟨h1, h2⟩ := and_el h
      rw [(decT_el h1).2]
      cases vs with
      | nil => exact ev.elim
      | cons v vs =>
        obtain ⟨w, ws, rfl, R1, R⟩ := R
        show wpG _ _ (do holding ws (assign p κ.env w); assignInOrder _ ws) _ _
        exact wpG_hold (ht t κ p X h1 r o oa σ v w (putsP (callF κ.n) o ts vs · · Q) (fun _ s => Wt κ (assignInOrder ((assignEach ps κ.env).map Prod.snd) ws) QF s) s R1 ev fun r1 σ1 s1 m ev => ih h2 s1 (R.imp m) ev) fun _ _ h => h
theorem ss_par (ht : ∀ t, TT t) (hl : SndL es) : SS (.par ts es) := fun κ p X e r o oa σ Q R QF s ev k => by
  apply vAsg_el e; intro ts' v pos e
  apply on1_el e; intro t e
  apply vTup_el e; intro ps k1 p1 e
  apply vTup_el e; intro vs k2 p2 e
  obtain ⟨e1, e⟩ := and_el e
  obtain ⟨e1, e2⟩ := and_el e1
  obtain ⟨e2, e3⟩ := and_el e2
  obtain ⟨e4, e5⟩ := and_el e
  refine g_Assign rfl rfl (swapped_mixed e3) (g_Tuple (hl.sl (κ.e r oa) vs e5 _ σ _ _ (s.g X.toFy) ev fun ws us σ1 x1 g1 R1 hz ev => ?_))
  refine new_tuple g1 (by rw [hz]; exact Nat.le_trans (of_decide_eq_true e1) (by decide)) fun h' kk ht' => ?_
  have x2 := grow_ok (F := noF) g1.inv kk σ1.s.toks
  have x12 := x1.trans x2.1
  show wpG _ _ (do assignAll (.ref σ1.s.heap.objs.size) [assign (.Tuple ps k1 p1) κ.env]; pure Flow.next) _ _
  refine wpG_then (Q := fun _ => QF .next) ?_ fun _ _ h => wpG_pure h
  show wpG _ _ (assign (.Tuple ps k1 p1) κ.env (.ref σ1.s.heap.objs.size)) _ _
  rw [arm_assign_Tuple]
  refine wpG_sat ?_
  unfold unpack
  obtain ⟨n1, n2⟩ := decTs_each (env := κ.env) e4
  rw [show (assignEach ps κ.env).length = ws.length from n1.trans ((of_decide_eq_true e2).trans ((decL_len e5).trans hz.symm)), n2]
  refine wpG_bind (wpG_holding (wpG_of (unpackItems_tuple (s := { σ1.s with heap := h' }) X.bud.hd ht' fun h2 x => ?_)))
  have x3 := grow_ok (F := noF) (σ := σ1.to h' σ1.s.toks) x2.2 (keep_of x) σ1.s.toks
  have x13 := x12.trans x3.1
  exact tts_seq (σ := σ1.to h2 σ1.s.toks) X ht e4 (s.step X.toFy x13 ((g1.ext x2.1 x2.2).ext x3.1 x3.2)) (x3.1.rvs (x2.1.rvs R1)) ev fun r' σ2 s2 ev => k.nx _ _ _ _ s2 ev
theorem op_aug {κ : Kx} {w2 : Value} {v : V} {C : Int → Prop} {Q : Value → Shared → Prop} {p : Int} {t : Nat} (g : G κ σ) (e : asI v C) (R : Rv κ.Z σ v w2) (k : ∀ q t σ', C q → σ'.S = σ.S → Ext noF σ σ' → G κ σ' → Q (.int (p + q) t) σ'.s) : W κ (inplaceOp .Add (.int p t) w2) Q σ.s := by
  apply asI_el e R; intro q u e
  have x := grow_ok (F := noF) g.inv (h' := σ.s.heap) (fun _ _ e => e) (σ.s.toks + 1)
  exact wpG_of (PyProof.Rows.iadd_int (k q _ (σ.to σ.s.heap (σ.s.toks + 1)) e rfl x.1 (g.ext x.1 x.2)))
theorem ss_aug {t : T} (hs : ∀ a, Snd a) (he : Snd e) : SS (.aug t e) := fun κ p X e1 r o oa σ Q R QF s ev k => by
  apply vAug_el e1; intro q op v pos e1
  obtain ⟨eo, e1⟩ := and_el e1
  obtain ⟨_, e1⟩ := and_el e1
  obtain ⟨e1, e2⟩ := and_el e1
  apply dec_el (C := fun op => Wt κ (exec (.AugAssign q op v pos) κ.env) QF σ.s) eo
  cases t with
  | var i => exact ev.elim
  | attr a n =>
    revert e1; intro e1
    apply vAttr_el (C := fun q => Wt κ (exec (.AugAssign q .Add v pos) κ.env) QF σ.s) e1; intro x y tp e1
    obtain ⟨e1, e3⟩ := and_el e1
    obtain ⟨e1, e4⟩ := and_el e1
    apply dec_el (C := fun y => Wt κ (exec (.AugAssign (.Attribute x y tp) .Add v pos) κ.env) QF σ.s) e1
    rw [arm_exec_AugAssign_2]
    refine wpG_sat (wpG_then ((hs a (κ.e r oa) x e3).1 σ _ _ (s.g X.toFy) ev fun w1 u σ1 x1 g1 R1 ev => ?_) fun _ _ h => h)
    have s1 := s.step X.toFy x1 g1
    apply asA_el ev R1; intro i p hp ev
    refine wpG_hold (m := standAt tp.atName >>= _) (Q := fun w s => wpG _ _ (standAt tp.atName >>= fun _ => holding [w, .ref p.1] (setAttr (.ref p.1) n.str w) >>= fun _ => release [w, .ref p.1] [] >>= fun _ => pure Flow.next) QF s) ?_ fun _ _ h => h
    refine wpG_sat (wpG_then (op_attr (P := fun u s => asI u fun p => wE (callF κ.n) e r s (kUA3 n p i (kAug r o Q))) g1 e4 (v := .loc i) ⟨p, hp, rfl⟩ ev fun w u σ2 x2 g2 R2 ev => ?_) fun _ _ h => h)
    apply asI_el ev R2; intro j t ev
    refine wpG_hold ((he (κ.e r oa) v e2).1 σ2 _ _ g2 ev fun w3 u3 σ3 x3 g3 R3 ev => ?_) fun _ _ h => wpG_sat (wpG_operate h)
    refine op_aug g3 ev R3 fun q t σ4 ev eS x4 g4 => ?_
    have hp4 := x4.pre _ _ (x3.pre _ _ (x2.pre _ _ hp))
    obtain ⟨z, hz, ev⟩ := ev.h
    rw [← eS] at hz
    obtain ⟨D, l, rfl, _, _, ev⟩ := asInst_el (g4.inv.at' hp4 hz) ev
    obtain ⟨hm, ev⟩ := ifT_el ev
    refine wpG_sat (wpG_hold (set_attr g4 e4 hp4 hz hm (v := .d (.int (j + q))) ⟨_, rfl⟩ fun σ5 x5 g5 e5 => ?_) fun _ _ h => h)
    exact wpG_bind (wpG_of (wpAny_release' (wpG_pure (k.nx _ _ _ σ5 (s1.step X.toFy (x2.trans (x3.trans (x4.trans x5))) g5) (e5 ▸ eS ▸ ev)))))
  | idx a b =>
    apply vSub_el (C := fun q => Wt κ (exec (.AugAssign q .Add v pos) κ.env) QF σ.s) e1; intro x y tp e1
    obtain ⟨e3, e1⟩ := and_el e1
    obtain ⟨e1, e4⟩ := and_el e1
    rw [arm_exec_AugAssign_3]
    refine wpG_sat (wpG_then ((hs a (κ.e r oa) x e1).1 σ _ _ (s.g X.toFy) ev fun w1 u σ1 x1 g1 R1 ev => ?_) fun _ _ h => h)
    refine wpG_hold ((hs b (κ.e r oa) y e4).1 σ1 _ _ g1 ev fun w2 u2 σ2 x2 g2 R2 ev => ?_) fun _ _ h => h
    have s2 := s.step X.toFy (x1.trans x2) g2
    apply asA_el ev (x2.rv R1); intro i p hp ev
    apply asI_el ev R2; intro j t ev
    obtain ⟨z, hz, ev⟩ := ev.h
    cases z with
    | lst l =>
      obtain ⟨hj, ev⟩ := ev
      obtain ⟨u, hu, ev⟩ := onS_el ev
      obtain ⟨pe, vs, D, R⟩ := g2.inv.at' hp hz
      obtain ⟨w, hw, Rw⟩ := R.get hu
      have fin : ∀ ov iv new, augStore y ov iv new = (do holding [new, ov, iv] (setItem ov iv new); release [new, ov, iv] []; pure .next) := fun _ _ _ => by cases y <;> first | rfl | cases e3
      refine wpG_hold (m := standAt tp >>= _) (Q := fun w s => wpG _ _ (standAt tp >>= fun _ => augStore y (.ref p.1) (.int j t) w) QF s) ?_ fun _ _ h => h
      refine wpG_sat (wpG_any (Q := fun w' s => w' = w ∧ s = σ2.s) (pe ▸ wpAny_getItem_list D hj.1 (Int.lt_trans hj.2 (by decide)) (List.getElem?_toArray.trans hw) ⟨rfl, rfl⟩) fun w' s e => ?_)
      obtain ⟨rfl, rfl⟩ := e
      apply asI_el (Z := ZO κ.Z oa) (σ := σ2) ev Rw; intro j2 t2 ev
      refine wpG_hold ((he (κ.e r oa) v e2).1 σ2 _ _ g2 ev fun w3 u3 σ3 x3 g3 R3 ev => ?_) fun _ _ h => wpG_sat (wpG_operate h)
      refine op_aug g3 ev R3 fun q t σ4 ev eS x4 g4 => ?_
      have hp4 := x4.pre _ _ (x3.pre _ _ hp)
      obtain ⟨z, hz, ev⟩ := ev.h
      rw [← eS] at hz
      cases z with
      | lst l4 =>
        rw [fin]
        refine wpG_sat (wpG_hold (set_item (y := .d (.int j)) (v := .d (.int (j2 + q))) (P := fun z => Q r o (σ4.S.set i z)) g4 hp4 hz ⟨_, rfl⟩ ⟨_, rfl⟩ ⟨⟨hj.1, ev.1, hj.2⟩, eS ▸ ev.2⟩ fun σ5 z x5 g5 e5 ev => ?_) fun _ _ h => h)
        exact wpG_bind (wpG_of (wpAny_release' (wpG_pure (k.nx _ _ _ σ5 (s2.step X.toFy (x3.trans (x4.trans x5)) g5) (e5 ▸ ev)))))
      | _ => exact ev.elim
    | _ => exact ev.elim
end
end
section
abbrev Kt.aside (κ : Kt) (a : Addr) : Kt := { κ with Z := fun b => κ.Z b ∨ b = a }
section
variable {κ : Kt} {r : Slots} {o : OO} {oa : Option Addr} {σ : Sg} {a : Addr} {h' : Heap} {x : Str} {i : Nat} {w : Ow} {p : Nat × Ow}
theorem zo_some : ZO (κ.aside a).Z none = ZO κ.Z (some a) := funext fun b => propext
  ⟨fun z => z.elim (fun z => z.elim .inl fun q => .inr (congrArg some q.symm)) (fun q => nomatch q), fun z => .inl (z.elim .inl fun q => .inr (Option.some.inj q).symm)⟩
theorem aside_new {c : Cx} {Y Z : Addr → Prop} (I : Inv c Z σ) (k : ∀ b o, σ.s.heap.get? b = some o → h'.get? b = some o) (t : Nat) (hy : ∀ a, Y a → Z a ∨ (σ.s.heap.get? a = none ∧ ∃ o, h'.get? a = some o)) :
    Ext noF σ (σ.to h' t) ∧ Inv c Y (σ.to h' t) ∧ ∀ v w, Rv Z σ v w → Rv Y (σ.to h' t) v w := by
  obtain ⟨x, J⟩ := grow_ok (F := noF) I k t
  have back : ∀ a o, σ.s.heap.get? a = some o → Xs σ.ft Y a → Xs σ.ft Z a := fun a o e m => m.imp id fun y => (hy a y).elim id fun q => by rw [q.1] at e; cases e
  have kp : Kp (Xs σ.ft Z) σ.s.heap h' := fun b o e _ => k b o e
  refine ⟨x, ⟨J.base, I.len, fun i p y a b => ?_, I.nd, fun a y m => ?_, I.mb, fun a y => ?_, fun a y => (hy a y).elim (J.zs a) fun q => q.2, I.nsy⟩, fun v w R => RepV.move kp back (fun _ _ e => e) v R⟩
  · obtain ⟨o, e⟩ := (I.cells i p y a b).get
    exact (I.cells i p y a b).move kp back (fun _ _ e => e) ((k _ _ e).trans e.symm)
  · exact (hy a y).elim (fun z => I.zm a z m) fun q => I.fresh q.1 (.inl m)
  · refine (hy a y).elim (I.zb a) fun q => ?_
    cases e : c.hb.get? a with
    | none => rfl
    | some o => rw [I.base a o e] at q; cases q.1
theorem Fx.aside (X : Fx κ) : Fx (κ.aside a) := ⟨⟨X.ok, X.call, X.bud, ⟨X.ev.kind, X.ev.glob, X.ev.bi, .inl X.ev.zl, fun x b h => .inl (X.ev.zc x b h), X.ev.cf⟩, X.nofree, X.inj⟩, X.base⟩
theorem Sr.more (X : Fx κ) (s : Sr κ r o oa σ) {σ' : Sg} (x : Ext noF σ σ') (I : Inv κ.c (ZO (κ.aside a).Z oa) σ') (f : σ.s.heap.get? a = none) : Sr (κ.aside a) r o oa σ' ∧ ¬ κ.Z a ∧ κ.σ0.s.heap.get? a = none ∧ ∀ v w, Rv (ZO κ.Z oa) σ v w → Rv (ZO (κ.aside a).Z oa) σ' v w := by
  have nz : ∀ b, ZO κ.Z oa b → b ≠ a := fun b z q => by
    obtain ⟨o, e⟩ := s.inv.zs b z
    rw [q, f] at e; cases e
  have back : ∀ b o, σ.s.heap.get? b = some o → Xs σ'.ft (ZO (κ.aside a).Z oa) b → Xs σ.ft (ZO κ.Z oa) b := fun b o e m => by
    rcases m with m | (z | rfl) | z
    · exact .inl (x.new' e m)
    · exact .inr (.inl z)
    · rw [f] at e; cases e
    · exact .inr (.inr z)
  have mv : ∀ v w, Rv (ZO κ.Z oa) σ v w → Rv (ZO (κ.aside a).Z oa) σ' v w := fun v w R => RepV.move x.kpN back x.pre v R
  have kz : ∀ b o, ZO κ.Z oa b → σ.s.heap.get? b = some o → σ'.s.heap.get? b = some o := fun b o z e => x.kp b o e fun m => m.elim (s.inv.zm b z) id
  refine ⟨⟨s.ext.trans x.of_no, I, fun j u y h1 h2 h3 => ?_, s.frm.same fun b o fb e => kz b o (.inl (X.za b fb)) e, ?_, s.ob⟩, fun z => nz a (.inl z) rfl, ?_, mv⟩
  · obtain ⟨w, a1, a2⟩ := s.locs j u y h1 h2 h3
    exact ⟨w, a1.ext X.ev.zo s.inv x, mv _ _ a2⟩
  · have O := s.own
    cases o with
    | none => exact O
    | some p =>
      obtain ⟨b, e, h1, h2, x', h3, h4, h5⟩ := O
      exact ⟨b, e, fun z => z.elim h1 (nz b (.inr e)), h2, x', h3, h4.ext X.ev.zo s.inv x, h5.move (fun o e' => kz b o (.inr e) e') fun d w R => mv (.d d) w R⟩
  · cases e : κ.σ0.s.heap.get? a with
    | none => rfl
    | some o => obtain ⟨o', e'⟩ := s.ext.st _ _ e; rw [f] at e'; cases e'
theorem Sr.aside (X : Fx κ) (s : Sr κ r o oa σ) (kk : ∀ b o, σ.s.heap.get? b = some o → h'.get? b = some o) (f : σ.s.heap.get? a = none) (n : ∃ o, h'.get? a = some o) (t : Nat) :
    Sr (κ.aside a) r o oa (σ.to h' t) ∧ ¬ κ.Z a ∧ κ.σ0.s.heap.get? a = none ∧ Ext noF σ (σ.to h' t) ∧ ∀ v w, Rv (ZO κ.Z oa) σ v w → Rv (ZO (κ.aside a).Z oa) (σ.to h' t) v w := by
  obtain ⟨x, I, _⟩ := aside_new (Y := ZO (κ.aside a).Z oa) s.inv kk t fun b z => z.elim (fun z => z.imp .inl fun (q : b = a) => q ▸ ⟨f, n⟩) fun q => .inl (.inr q)
  obtain ⟨s', nz, f0, mv⟩ := s.more X x I f
  exact ⟨s', nz, f0, x, mv⟩
theorem own_store {Q : Unit → Shared → Prop} (X : Fx κ) (s : Sr (κ.aside a) r none none σ) (nz : ¬ κ.Z a) (hb : κ.σ0.s.heap.get? a = none) (hx : κ.nf i = some x) (hv : isVar (κ.env.scope.names.lookup x) = true) (hi : slotOf r i = none)
    (O : OwIs (ZO κ.Z (some a)) σ a w) (k : ∀ σ', Sr κ r (some (i, w)) (some a) σ' → Mv (ZO κ.Z (some a)) σ σ' → σ'.S = σ.S → Q () σ'.s) : Wta κ (storeName κ.env x (.ref a)) Q σ.s := by
  refine store_core X.toFy (X.bs x) s.frm hv fun b h' t fb bb sb hn fo ax ay => ?_
  have nb : a ≠ b := fun q => nz (X.za a (q ▸ fb))
  obtain ⟨x1, I1, kk⟩ := s.poke t (.inl (.inl (X.za b fb))) bb (same_kb sb) hn
  rw [zo_some] at I1 kk
  have mv := Mv.kp (t := t) kk
  refine k (σ.to h' t) ⟨x1, I1, fun j u y h1 h2 h3 => ?_, fo, ⟨a, rfl, nz, hi, x, hx, ax, O.move (fun o e => (sb.2 a nb).trans e) fun d w R => mv (.d d) w R⟩, fun b q => Option.some.inj q ▸ .inr hb⟩ mv rfl
  obtain ⟨u', a1, a2⟩ := s.locs j u y h1 h2 h3
  refine ⟨u', ay y u' (fun q => ?_) a1, mv _ _ ((zo_some (κ := κ)) ▸ a2)⟩
  rw [X.inj j i y h2 (q ▸ hx), hi] at h1; cases h1
theorem Sr.own_put {w' : Ow} (X : Fx κ) (s : Sr κ r (some p) (some a) σ) (sb : Heap.SameBut a σ.s.heap h') (hn : ∃ o, h'.get? a = some o) (t : Nat) (O : Mv (ZO κ.Z (some a)) σ (σ.to h' t) → OwIs (ZO κ.Z (some a)) (σ.to h' t) a w') : Sr κ r (some (p.1, w')) (some a) (σ.to h' t) := by
  obtain ⟨_, q, h1, h2, x, h3, h4, h5⟩ := s.own
  cases q
  have nf : ∀ b, FA κ.env b → b ≠ a := fun b fb q => h1 (q ▸ X.za b fb)
  have oth : ∀ {y u}, At σ.s.heap κ.env y u → At h' κ.env y u := fun q => q.other sb (nf _ (.inl rfl)) fun b hb => nf b (.inr ⟨_, hb⟩)
  obtain ⟨x1, I1, kk⟩ := s.poke t (.inr rfl) (s.ob a rfl) (same_kb sb) hn
  have mv := Mv.kp (t := t) kk
  refine ⟨x1, I1, fun j u y q1 q2 q3 => ?_, s.frm.same fun b o fb eb => (sb.2 b (nf b fb)).trans eb, ⟨a, rfl, h1, h2, x, h3, oth h4, O mv⟩, s.ob⟩
  obtain ⟨u', a1, a2⟩ := s.locs j u y q1 q2 q3
  exact ⟨u', oth a1, mv _ _ a2⟩
theorem name_at {κ : Kx} {w : Value} {pos : Pos} {Q : Value → Shared → Prop} (E : κ.env.scope.kind = .function) (a : At σ.s.heap κ.env x w) (e : okNm x = true) (k : Q w σ.s) : W κ (eval (.Name x pos) κ.env) Q σ.s := by
  obtain ⟨e1, e2⟩ := and_el e
  refine wpG_of (wpAny_Name ?_ ((Bool.not_eq_true' _).mp e1))
  rcases a with ⟨k1, m, hn, hm⟩ | ⟨k1, a, ha, hcell⟩
  · exact wpAny_loadName_local E k1 hn hm k
  · rcases k1 with k1 | k1
    · exact wpAny_loadName_cell E k1 ha hcell k
    · exact wpAny_loadName_free E k1 ha hcell k ((Bool.not_eq_true' _).mp e2)
theorem noO_el {P : Prop} (h : noO o P) : o = none ∧ P := by
  cases o with
  | none => exact ⟨rfl, h⟩
  | some p => exact h.elim
theorem lone_el {v : Option V} {P : Prop} (h : lone v P) : v = none ∧ P := by
  cases v with
  | none => exact ⟨rfl, h⟩
  | some p => exact h.elim
theorem ss_own : SS (.own i) := fun κ p X e r o oa σ Q R QF s ev k => by
  apply vAsg_el e; intro ts v pos e
  apply on1_el e; intro t e
  obtain ⟨e1, e2⟩ := and_el e
  apply vName_el (C := fun t => Wt κ (exec (.Assign [t] v pos) κ.env) QF σ.s) e1; intro x q e1
  apply vLst_el e2; intro es lp e2
  cases List.isEmpty_iff.mp e2
  obtain ⟨rfl, ev⟩ := noO_el ev
  obtain ⟨hi, ev⟩ := lone_el ev
  obtain rfl : oa = none := s.own
  obtain ⟨hx, hv⟩ := and_el e1
  refine g_Assign rfl rfl (o := none) rfl (wpG_of (wpAny_List (spliced_none ⟨Nat.zero_le _, ?_⟩)))
  obtain ⟨s1, nz, hb, _⟩ := s.aside X (push_kk _) (Heap.get?_none_of_le (Nat.le_refl _)) ⟨_, Heap.get?_push_size _ (o := { cls := .type "list", data := .seq (Array.mk []) }) rfl⟩ σ.s.toks
  refine wpG_then (Q := fun _ => QF .next) (wpG_of (wpAny_assign_Name (own_store (w := .lst []) X s1 nz hb (beq_iff_eq.mp hx) hv hi ⟨[], ⟨0, Heap.get?_push_size _ rfl⟩, rfl⟩ fun σ2 s2 _ e => k.nx _ _ _ _ s2 (e ▸ ev)))) fun _ _ h => wpG_pure h
theorem ss_app {e : E} (he : Snd e) : SS (.app i e) := fun κ p X e r o oa σ Q R QF s ev k => by
  apply vEx_el e; intro v pos e
  apply vCall_el e; intro g es kw cp e
  obtain ⟨ek, e⟩ := and_el e
  obtain ⟨ek, el⟩ := and_el ek
  apply vAttr_el (C := fun g => Wt κ (exec (.Expr (.Call g es kw cp) pos) κ.env) QF σ.s) e; intro ob t ap e
  obtain ⟨e1, e⟩ := and_el e
  obtain ⟨e2, e1⟩ := and_el e1
  obtain ⟨e3, e1⟩ := and_el e1
  apply on1_el (C := fun es => Wt κ (exec (.Expr (.Call (.Attribute ob t ap) es kw cp) pos) κ.env) QF σ.s) e; intro y e
  apply dec_el (C := fun t => Wt κ (exec (.Expr (.Call (.Attribute ob t ap) [y] kw cp) pos) κ.env) QF σ.s) e3
  apply vName_el (C := fun ob => Wt κ (exec (.Expr (.Call (.Attribute ob _ ap) [y] kw cp) pos) κ.env) QF σ.s) e1; intro x q e1
  obtain ⟨e1, e4⟩ := and_el e1
  obtain ⟨hx, hv⟩ := and_el e1
  obtain ⟨e5, e6⟩ := and_el e
  have e7 : decL κ.nf [_] κ.env.scope [y] = true := Bool.and_eq_true_iff.mpr ⟨e5, Bool.and_eq_true_iff.mpr ⟨e6, rfl⟩⟩
  have star := decL_star (env := κ.env) e7
  cases o with
  | none => exact ev.elim
  | some p =>
    obtain ⟨hi, ev⟩ := ifT_el ev
    obtain ⟨j, w⟩ := p
    cases Nat.eq_of_beq_eq_true hi
    cases w with
    | byt l => exact ev.elim
    | lst l =>
      obtain ⟨a, rfl, h1, h2, x', h3, h4, vs, h5, h6⟩ := s.own
      cases (beq_iff_eq.mp hx).symm.trans h3
      cases List.isEmpty_iff.mp ek
      refine g_Expr X.ev.kind rfl (g_meth rfl star (Nat.le_of_ble_eq_true rfl) e2 (name_at (κ := κ.e r (some a)) X.ev.kind h4 e4 fun pl => ?_))
      obtain ⟨z, hz⟩ := id h5
      refine wpG_of (getMethod_builtin h5.isList.typeIs PySem.F.plainAttrs_list PySem.F.slot_list_append (by kernel_rfl) (fun b q => by cases q; exact ⟨_, hz, rfl⟩) ?_)
      refine g_callWith ((backTo_any _ _).trans star) ((snd_cons he snd_nil).sl (κ.e r (some a)) [y] e7 _ σ (fun vs s => one vs fun v => kApp j l r Q v s) _ (s.g X.toFy) ev fun ws us σ1 x1 g1 R1 _ ev => ⟨keeps_machine (fun a q => nomatch q), ?_⟩)
      apply one_el (C := fun ws => Wt κ (call (.builtin "list.append") (.ref a :: ws)) _ σ1.s) ev R1; intro v w ev R1
      apply asD_el (C := fun w => Wt κ (call (.builtin "list.append") [.ref a, w]) _ σ1.s) ev R1; intro d _ R1 ev
      have s1 := s.step X.toFy x1 g1
      obtain ⟨_, q, _, _, _, _, _, us, p1, p2⟩ := s1.own
      cases q
      have hl := ev.1
      refine wpG_of (wpAny_list_append_plain p1 (fun h' P' sb => ?_) (by have : lim = 1000000 := rfl; have := p2.length; rw [sizeLine_eq]; simp only [List.size_toArray]; omega))
      refine k.nx _ _ _ _ (s1.own_put (w' := .lst (l ++ [d])) X sb (let ⟨z, e⟩ := P'; ⟨_, e⟩) σ1.s.toks fun mv => ⟨us ++ [w], ?_, All2.append ⟨_, _, rfl, mv (.d d) _ R1, rfl⟩ (p2.imp fun d w => mv (.d d) w)⟩) ev.2
      exact (show (Array.mk us).push w = Array.mk (us ++ [w]) from List.push_toArray us w) ▸ P'
end
end
section
theorem erase_mid {α : Type} {i : α} {l m : List α} : (l ++ i :: m).eraseIdx l.length = l ++ m := by
  induction l with
  | nil => rfl
  | cons a l ih => exact congrArg (a :: ·) ih
theorem split_at {α : Type} {i : α} : ∀ {k : Nat} {l : List α}, l[k]? = some i → ∃ a b, l = a ++ i :: b ∧ a.length = k
  | 0, a :: l, h => by cases h; exact ⟨[], l, rfl, rfl⟩
  | k + 1, a :: l, h => by
    obtain ⟨x, y, rfl, e⟩ := split_at (l := l) (k := k) h
    exact ⟨a :: x, y, rfl, congrArg (· + 1) e⟩
theorem All2.split {α β : Type} {R : α → β → Prop} {ws us : List β} {l : List α} (h : All2 R l (ws ++ us)) : ∃ a b, l = a ++ b ∧ All2 R a ws ∧ All2 R b us := by
  induction ws generalizing l with
  | nil => exact ⟨[], l, rfl, rfl, h⟩
  | cons w ws ih => cases l with
    | nil => cases h
    | cons v l =>
      obtain ⟨_, _, e, r, h⟩ := h
      cases e
      obtain ⟨a, b, rfl, p, q⟩ := ih h
      exact ⟨v :: a, b, rfl, ⟨_, _, rfl, r, p⟩, q⟩
theorem SndL.of {l : List E} (h : ∀ e ∈ l, Snd e) : SndL l := by
  induction l with
  | nil => exact snd_nil
  | cons e l ih => exact snd_cons (h e (.head _)) (ih fun e m => h e (.tail _ m))
section
variable {κ : Kt} {r : Slots} {σ : Sg} {a : Addr} {i : Nat} {is : List Nat} {l : List E}
theorem sh_own {k : Nat} (hl : ∀ e ∈ l, Snd e) {pl : List PySem.Expr} (X : Fx κ) (e : decH κ.nf κ.env.scope k l pl = true) {pos : Pos} {P : PL} {Q : List Value → Shared → Prop} (s : Sr κ r none none σ) (ev : wL (callF κ.n) l r σ.S P)
    (kk : ∀ ws us a vs σ', ws.length = k → Sr (κ.aside a) r none none σ' → ¬ κ.Z a → κ.σ0.s.heap.get? a = none → (∀ v w, Rv (ZO κ.Z none) σ v w → Rv (ZO κ.Z (some a)) σ' v w) → Rvs (ZO κ.Z (some a)) σ' vs (ws ++ us) → σ'.s.heap.PlainList a (Array.mk []) → (ws ++ us).length + 1 = pl.length → P vs σ'.S → Q (ws ++ .ref a :: us) σ'.s) :
    Wt κ (spliced (backTo pos (starEach pl κ.env))) Q σ.s := by
  induction k generalizing l pl σ P Q with
  | zero =>
    cases pl with
    | nil => cases e
    | cons x pl =>
      obtain ⟨e1, e2⟩ := and_el e
      apply vLst_el (C := fun x => Wt κ (spliced (backTo pos (starEach (x :: pl) κ.env))) Q σ.s) e1; intro es lp e1
      cases List.isEmpty_iff.mp e1
      rw [star_cons rfl]
      refine g_spl (wpG_of (wpAny_List (spliced_none ⟨Nat.zero_le _, ?_⟩)))
      obtain ⟨s1, nz, hb, _, mv⟩ := s.aside X (push_kk _) (Heap.get?_none_of_le (Nat.le_refl _)) ⟨_, Heap.get?_push_size _ (o := { cls := .type "list", data := .seq (Array.mk []) }) rfl⟩ σ.s.toks
      refine (SndL.of hl).sl ((κ.aside _).e r none) pl e2 pos _ P _ (s1.g X.aside.toFy) ev fun ws vs σ2 x2 g2 R2 hz ev => ?_
      refine kk [] ws _ vs σ2 rfl (s1.step X.aside.toFy x2 g2) nz hb (fun v w R => ?_) ?_ ⟨0, x2.kp _ _ (Heap.get?_push_size _ rfl) fun m => m.elim (s1.inv.zm _ (.inl (.inr rfl))) id⟩ (congrArg (· + 1) hz) ev
      · have := x2.rv (mv v w R)
        rw [zo_some] at this; exact this
      · rw [show ((κ.aside _).e r none).Z = ZO κ.Z (some _) from zo_some] at R2; exact R2
  | succ k ih =>
    cases l with
    | nil => cases e
    | cons b l =>
      cases pl with
      | nil => cases e
      | cons x pl =>
        obtain ⟨e1, e⟩ := and_el e
        obtain ⟨e2, e3⟩ := and_el e
        rw [star_cons e1]
        exact g_spl ((hl b (.head _) (κ.e r none) x e2).1 σ _ _ (s.g X.toFy) ev fun w v σ1 x1 g1 R1 ev => ih (fun e m => hl e (.tail _ m)) e3 (s.step X.toFy x1 g1) ev fun ws us a vs σ2 hz s2 nz hb mv R2 p hn ev =>
          kk (w :: ws) us a (v :: vs) σ2 (congrArg (· + 1) hz) s2 nz hb (fun v w R => mv v w (x1.rv R)) ⟨_, _, rfl, mv v w R1, R2⟩ p (congrArg (· + 1) hn) ev)
theorem own_seq {is2 : List Nat} {fs : List (Value → Sem Unit)} {ws us : List Value} {vs ys : List V} {Q : Unit → Shared → Prop} (X : Fx κ) (h : All2 (St1 κ) (is ++ i :: is2) fs) (s : Sr (κ.aside a) r none none σ) (nz : ¬ κ.Z a) (hb : κ.σ0.s.heap.get? a = none)
    (R1 : Rvs (ZO κ.Z (some a)) σ vs ws) (R2 : Rvs (ZO κ.Z (some a)) σ ys us) (p : σ.s.heap.PlainList a (Array.mk [])) (nd : (is ++ i :: is2).Nodup) (hi : slotOf r i = none) (l1 : is.length = vs.length) (l2 : is2.length = ys.length)
    (k : ∀ σ', Sr κ (setVs (is ++ is2) (vs ++ ys) r) (some (i, .lst [])) (some a) σ' → σ'.S = σ.S → Q () σ'.s) : Wta κ (assignInOrder fs (ws ++ .ref a :: us)) Q σ.s := by
  induction is generalizing fs vs ws r σ with
  | nil =>
    cases vs with
    | cons => cases l1
    | nil =>
      cases R1
      obtain ⟨f, fs, rfl, ⟨x, h1, h2, bs, h3⟩, h⟩ := h
      refine wpAny_assignInOrder_more (h3 _ _ _ (own_store (w := .lst []) X s nz hb h1 h2 hi ⟨[], p, rfl⟩ fun σ1 s1 m e1 => ?_))
      refine store_vars X.toFy h s1 (fun j hj p hp => ?_) (R2.imp m) l2 fun σ2 s2 e2 => k σ2 s2 (e2.S.trans e1)
      cases hp
      exact fun (q : i = j) => (List.nodup_cons.mp nd).1 (q ▸ hj)
  | cons j is ih =>
    cases vs with
    | nil => cases l1
    | cons v vs =>
      obtain ⟨w, ws, rfl, Rw, R1⟩ := R1
      obtain ⟨f, fs, rfl, ⟨x, h1, h2, bs, h3⟩, h⟩ := h
      have nd := List.nodup_cons.mp nd
      refine wpAny_assignInOrder_more (h3 _ _ _ (store_var (κ := κ.aside a) X.aside.toFy bs s h1 h2 (fun p q => nomatch q) (by rw [zo_some]; exact Rw) fun σ1 s1 m e1 => ?_))
      rw [zo_some] at m
      exact ih h s1 (R1.imp m) (R2.imp m) (let ⟨z, e⟩ := p; ⟨z, e1.kp _ _ (fun f => nz (X.za a f)) e⟩) nd.2 (slot_set_none (fun q => nd.1 (q ▸ List.mem_append_right _ (.head _))) hi) (Nat.succ.inj l1) fun σ2 s2 e2 => k σ2 s2 (e2.trans e1.S)
theorem ss_parOwn {k : Nat} (hl : SndL l) : SS (.parOwn is k l) := fun κ p X e r o oa σ Q R QF s ev kk => by
  apply vAsg_el e; intro ts v pos e
  apply on1_el e; intro t e
  apply vTup_el e; intro ps k1 p1 e
  apply vTup_el e; intro vs k2 p2 e
  obtain ⟨e1, e⟩ := and_el e
  obtain ⟨e0, e2⟩ := and_el e1
  obtain ⟨e2, e3⟩ := and_el e2
  obtain ⟨e3, e6⟩ := and_el e3
  obtain ⟨e4, e5⟩ := and_el e
  obtain ⟨xs, q1, q2⟩ := decVs_el e4
  obtain ⟨rfl, ev⟩ := noO_el ev
  obtain rfl : oa = none := s.own
  have nd := nodupNat_nodup e2
  have main : ∀ so, (so = none ∨ so = some xs) → swappedStores [.Tuple ps k1 p1] (.Tuple vs k2 p2) κ.env = pure so → Wt κ (exec (.Assign [.Tuple ps k1 p1] (.Tuple vs k2 p2) pos) κ.env) QF σ.s := fun so hoo hs => by
    refine g_Assign rfl rfl hs (g_Tuple (sh_own hl.al X e5 s ev fun ws us a ys σ1 hz s1 nz hb mv R1 pa hn ev => ?_))
    obtain ⟨i, hi, ev⟩ := onS_el ev
    obtain ⟨hf, ev⟩ := lone_el ev
    obtain ⟨hc, ev⟩ := ifT_el ev
    obtain ⟨is1, is2, rfl, l1⟩ := split_at hi
    rw [← l1, erase_mid] at hc ev
    have hc := Nat.eq_of_beq_eq_true hc
    have hlen : (ws ++ .ref a :: us).length = vs.length := by rw [← hn, List.length_append, List.length_append]; rfl
    obtain ⟨y1, y2, rfl, r1, r2⟩ := All2.split R1
    have m1 : is1.length = y1.length := l1.trans (hz.symm.trans r1.length)
    have m2 : is2.length = y2.length := by rw [List.length_append, List.length_append, m1] at hc; exact Nat.add_left_cancel hc
    refine new_tuple (s1.g X.aside.toFy) (hlen ▸ Nat.le_trans (of_decide_eq_true e0) (by decide)) fun h' kk' ht => ?_
    have grow : ∀ h'', (∀ b o, h'.get? b = some o → h''.get? b = some o) → Sr (κ.aside a) r none none (σ1.to h'' σ1.s.toks) ∧ Ext noF σ1 (σ1.to h'' σ1.s.toks) ∧ h''.PlainList a (Array.mk []) := fun h'' kp =>
      let x := grow_ok (F := noF) s1.inv (fun b o e => kp b o (kk' b o e)) σ1.s.toks
      ⟨s1.step X.aside.toFy x.1 ((s1.g X.aside.toFy).ext x.1 x.2), x.1, let ⟨z, e⟩ := pa; ⟨z, kp _ _ (kk' _ _ e)⟩⟩
    have lx : (ws ++ .ref a :: us).length = xs.length := by rw [q1.length, List.length_append, List.length_append, r1.length, ← m1, List.length_cons, List.length_cons, r2.length, ← m2]
    refine spread0 (σ := σ1.to h' σ1.s.toks) q2 hoo lx (fun Q hQ => unpackItems_tuple X.bud.hd ht fun h' x => hQ h' (keep_of x)) (fun h2 kp => ?_) fun h2 kp _ => ?_
    · obtain ⟨s2, x2, p2⟩ := grow h2 kp
      exact own_seq X (st_each (fun x _ => X.bs x) q1 q2) s2 nz hb (x2.rvs r1) (x2.rvs r2) p2 nd hf m1 m2 fun σ3 s3 e => kk.nx _ _ _ _ s3 (e ▸ ev)
    · obtain ⟨s2, x2, p2⟩ := grow h2 kp
      have q3 := st_bind (fun x _ => X.bs x) q1.rev
      have rev : ∀ {α : Type} {i : α} {l m : List α}, (l ++ i :: m).reverse = m.reverse ++ i :: l.reverse := by intro α i l m; rw [List.reverse_append, List.reverse_cons, List.append_assoc]; rfl
      have len : ∀ {α β : Type} {l : List α} {m : List β}, l.length = m.length → l.reverse.length = m.reverse.length := fun h => List.length_reverse.trans (h.trans List.length_reverse.symm)
      rw [rev] at q3 ⊢
      refine own_seq X q3 s2 nz hb (x2.rvs r2.rev) (x2.rvs r1.rev) p2 (rev ▸ List.pairwise_reverse.mpr (nd.imp Ne.symm)) hf (len m2) (len m1) fun σ3 s3 e => ?_
      rw [← List.reverse_append, ← List.reverse_append, setVs_rev (List.Nodup.sublist (List.Sublist.append_left (List.sublist_cons_self _ _) _) nd) hc] at s3
      exact kk.nx _ _ _ _ s3 (e ▸ ev)
  rcases swapped_names (env := κ.env) (k := k1) (k' := k2) (p := p1) (p' := p2) q2 e6 with hs | hs
  · exact main none (.inl rfl) hs
  · exact main (some xs) (.inr rfl) hs
end
end
section
namespace BA
theorem slot_setitem : Slot "bytearray" "__setitem__" "bytearray.__setitem__" :=
  .of (owner := "bytearray") (n := "__setitem__") (by rw [typeLookup_type, builtinLookup_eq_fast]; kernel_rfl) (by decide +kernel) (by decide +kernel) (by decide +kernel)
    (by first | exact .inl (by decide +kernel) | exact .inr (by decide +kernel)) (by rw [isSubtype_type]; kernel_rfl)
theorem entry_setitem : entryFor table "bytearray.__setitem__" = some Builtin.«bytearray.__setitem__» := by first | exact entryFor_of_fast (by kernel_rfl) | exact entryFor_of_tree (by kernel_rfl)
theorem args_setitem (a b c : Value) : argsOk "bytearray.__setitem__" ⟨[a, b, c], []⟩ := by unfold argsOk; kernel_rfl
theorem no_bytes : typeLookup (.type "bytearray") "__bytes__" = pure none := by rw [typeLookup_type, builtinLookup_eq_fast]; kernel_rfl
theorem noindex : typeLookup (.type "bytearray") "__index__" = pure none := by rw [typeLookup_type, builtinLookup_eq_fast]; kernel_rfl
theorem buffer : typeLookup (.type "bytearray") "__buffer__" = pure (some (.builtin "bytearray.__buffer__")) := by rw [typeLookup_type, builtinLookup_eq_fast]; kernel_rfl
theorem relbuf : typeLookup (.type "bytearray") "__release_buffer__" = pure (some (.builtin "bytearray.__release_buffer__")) := by rw [typeLookup_type, builtinLookup_eq_fast]; kernel_rfl
theorem sub_self : isSubtype (.type "bytearray") (.type "bytearray") = pure true := by rw [isSubtype_type]; kernel_rfl
end BA
def BAt (h : Heap) (a : Addr) (l : List UInt8) : Prop := h.get? a = some { cls := .type "bytearray", data := .bytearray (Array.mk l) }
theorem ba_type {s : Shared} {a : Addr} {l : List UInt8} (h : BAt s.heap a l) : s.TypeIs (.ref a) "bytearray" := ⟨_, h, rfl⟩
section
variable {prog : Program} {w : World} {A : Around} {Ex : Value → Shared → Prop} {s : Shared}
theorem ba_write {a : Addr} {l : List UInt8} {f : Array UInt8 → Array UInt8} {l' : List UInt8} {Q : Unit → Shared → Prop} (hb : BAt s.heap a l) (hf : f (Array.mk l) = Array.mk l') (hz : l'.length ≤ 1000000)
    (h : ∀ h', Heap.SameBut a s.heap h' → BAt h' a l' → Q () { s with heap := h' }) : wpAny (model prog w) A (Builtin.Bytes.write (.ref a) f) Q Ex s := by
  show wpAny _ _ (updateBytearray a f) _ _ _
  unfold updateBytearray
  refine wpAny_bind (wpAny_load hb ?_)
  show wpAny _ _ (update a (Obj.mapBytearray f) >>= fun _ => lookBehind a) _ _ _
  refine wpAny_bind (wpAny_update hb ?_)
  have hb2 : BAt (s.heap.update a (Obj.mapBytearray f)) a l' := by
    unfold BAt
    rw [← hf]
    exact Heap.get?_update_self (Obj.mapBytearray f) hb rfl
  refine wpAny_lookBehind hb2 ?_ (h _ (Heap.SameBut.update ..) hb2)
  show (if (Array.mk l').size > sizeLine then some "bytearray:memory" else none) = none
  rw [if_neg]
  rw [sizeLine_eq]; simp; omega
theorem ba_payload {a : Addr} {l : List UInt8} {Q : Array UInt8 → Shared → Prop} (hb : BAt s.heap a l) (h : Q (Array.mk l) s) : wpAny (model prog w) A (Builtin.Bytes.payload (.ref a)) Q Ex s := by
  unfold Builtin.Bytes.payload Builtin.Bytes.payload?
  refine wpAny_bind (wpAny_bind (wpAny_load hb ?_))
  exact wpAny_pure (wpAny_pure h)
theorem ba_setItem {a : Addr} {l : List UInt8} {k b : Int} {t u : Tok} {Q : Unit → Shared → Prop} (hb : BAt s.heap a l) (h0 : 0 ≤ k) (hk : k < l.length) (hl : l.length ≤ 1000000) (b0 : 0 ≤ b) (b1 : b < 256)
    (h : ∀ h', Heap.SameBut a s.heap h' → BAt h' a (l.set k.toNat b.toNat.toUInt8) → Q () { s with heap := h' }) : wpAny (model prog w) A (setItem (.ref a) (.int k t) (.int b u)) Q Ex s := by
  unfold setItem
  refine wpAny_holding ?_
  refine wpAny_bind (wpAny_sequenceKey (ba_type hb) (by decide) ?_)
  refine wpAny_bind (wpAny_callSpecial?_slot (name := Str.ofString "__setitem__") (ba_type hb) BA.slot_setitem
    (wpAny_call_entry BA.slot_setitem (ba_type hb) BA.entry_setitem ?_ (BA.args_setitem _ _ _)))
  show wpAny _ _ (Builtin.Bytes.subscript? (.int k t) >>= _) _ _ s
  unfold Builtin.Bytes.subscript?
  refine wpAny_bind (wpAny_bind (wpAny_specialOf (T := "int") (typeIs_int s k t) int_index ?_))
  refine wpAny_bind (wpAny_of_eq (a := k) rfl ?_)
  refine bm_if_false (by simp [Builtin.Bytes.fitsIndex]; omega) ?_
  refine wpAny_pure ?_
  show wpAny _ _ (Builtin.Bytes.byteValue (.int b u) >>= _) _ _ s
  unfold Builtin.Bytes.byteValue
  refine wpAny_bind (wpAny_bind (wpAny_of_eq (a := b) rfl ?_))
  refine bm_if_false (by simp only [Bool.or_eq_false_iff, decide_eq_false_iff_not]; omega) ?_
  refine wpAny_pure ?_
  refine wpAny_bind (ba_payload hb ?_)
  have e : seqIndex? k (Array.mk l).size = some k.toNat := by
    have hk' : k < ((Array.mk l).size : Nat) := by simpa using hk
    unfold seqIndex?
    have n0 : ¬ k < 0 := by omega
    simp only [n0, if_false]
    rw [if_pos (by simp only [Bool.and_eq_true, decide_eq_true_eq]; exact ⟨h0, hk'⟩)]
  rw [e]
  refine wpAny_bind (ba_write (l' := l.set k.toNat b.toNat.toUInt8) hb (by simp) (by simpa using hl) fun h' sb hb' => ?_)
  exact wpAny_pure ⟨_, rfl, wpAny_pure (h h' sb hb')⟩
theorem ba_release {a : Addr} {l : List UInt8} {Q : Bool → Shared → Prop} (hb : BAt s.heap a l) (h : Q false s) : wpAny (model prog w) A (Builtin.Bytes.ownRelease (.ref a)) Q Ex s := by
  unfold Builtin.Bytes.ownRelease Builtin.Bytes.slotIsOwn
  refine wpAny_bind (wpAny_bind (wpAny_specialOf (ba_type hb) BA.relbuf ?_))
  dsimp only
  refine bm_if_false (by decide +kernel) ?_
  have e : ("bytearray.__release_buffer__".dropRight ("__release_buffer__".length + 1)) = "bytearray" := by decide +kernel
  rw [e]
  exact wpAny_isInstance (ba_type hb) BA.sub_self (wpAny_pure h)
theorem ba_buffer {a : Addr} {l : List UInt8} {id : String} {Q : Option (Array UInt8) → Shared → Prop} (hb : BAt s.heap a l) (h : Q (some (Array.mk l)) s) : wpAny (model prog w) A (Builtin.Bytes.buffer? id (.ref a) true) Q Ex s := by
  unfold Builtin.Bytes.buffer?
  refine wpAny_bind (wpAny_specialOf (ba_type hb) BA.buffer ?_)
  dsimp only
  have own : ∀ Q : Bool → Shared → Prop, Q true s → wpAny (model prog w) A (Builtin.Bytes.slotIsOwn (.ref a) "__buffer__") Q Ex s := fun Q hq => by
    unfold Builtin.Bytes.slotIsOwn
    refine wpAny_bind (wpAny_specialOf (ba_type hb) BA.buffer ?_)
    dsimp only
    refine bm_if_false (by decide +kernel) ?_
    have e : ("bytearray.__buffer__".dropRight ("__buffer__".length + 1)) = "bytearray" := by decide +kernel
    rw [e]
    exact wpAny_isInstance (ba_type hb) BA.sub_self hq
  refine wpAny_bind (own _ ?_)
  refine bm_if_false rfl ?_
  refine wpAny_bind (wpAny_specialOf (ba_type hb) BA.buffer ?_)
  refine wpAny_bind (ba_release hb ?_)
  refine bm_if_false rfl ?_
  exact wpAny_bind (ba_payload hb (wpAny_pure h))
theorem ba_new_bytes {a : Addr} {l : List UInt8} {Q : Value → Shared → Prop} (hb : BAt s.heap a l) (hl : l.length ≤ 1000000) (hQ : ∀ t k, Q (.bytes (Array.mk l) t) { s with toks := k }) : codeAny (model prog w) A (.call (.builtin "bytes.__new__") ⟨[.type "bytes", .ref a], []⟩) (wants Q Ex) s := by
  refine codeAny_of_tree ?_
  show wpAny _ A.in1 (do checkBuiltinCall "bytes.__new__" ⟨[.type "bytes", .ref a], []⟩; again (.builtin "bytes.__new__" ⟨[.type "bytes", .ref a], []⟩)) _ _ s
  refine wpAny_bind (wpAny_of_eq (PySem.F.bm_newCall _) (wpAny_pure ⟨plainId_quiet PySem.F.bm_plain _, codeAny_builtin PySem.F.bm_entry ?_⟩))
  rw [Around.under_plainId PySem.F.bm_plain _]
  have hT := ba_type hb
  unfold Builtin.«bytes.__new__»
  refine wpAny_bind (wpAny_of_eq (a := true) rfl ?_)
  refine bm_if_false rfl ?_
  refine wpAny_bind (wpAny_of_eq PySem.F.bm_sub ?_)
  refine bm_if_false rfl ?_
  refine wpAny_bind (wpAny_of_eq (PySem.F.bm_bind _) ?_)
  refine wpAny_bind (wpAny_of_eq (a := ()) rfl ?_)
  refine wpAny_bind (wpAny_of_eq (a := ()) rfl ?_)
  refine bm_if_false rfl ?_
  refine wpAny_bind (wpAny_specialOf hT BA.no_bytes ?_)
  refine wpAny_bind (wpAny_bind ?_)
  show wpAny _ _ (load a >>= _) _ _ _
  refine wpAny_bind (wpAny_load hb ?_)
  refine wpAny_pure (wpAny_pure ?_)
  refine bm_if_false rfl ?_
  refine wpAny_bind (wpAny_specialOf hT BA.noindex ?_)
  refine bm_if_true rfl ?_
  first
    | show wpAny _ _ (Builtin.Bytes.buffer? "bytes.__new__" (.ref a) true >>= _) _ _ _
    | (refine wpAny_bind ?_; show wpAny _ _ (Builtin.Bytes.buffer? "bytes.__new__" (.ref a) true >>= _) _ _ _)
  refine wpAny_bind (ba_buffer hb ?_)
  refine wpAny_bind (wpAny_rule ?_)
  refine wpAny_bind (wpAny_mkBytes ?_ (by rw [sizeLine_eq]; simp; omega))
  show wpAny _ _ (if (Value.type "bytes" == Value.type "bytes") = true then _ else _) _ _ _
  refine bm_if_true (by decide) ?_
  first
    | exact wpAny_pure (hQ _ _)
    | exact wpAny_bind (wpAny_pure (wpAny_pure (hQ _ _)))
theorem call_bytes_ba {a : Addr} {l : List UInt8} {Q : Value → Shared → Prop} (hb : BAt s.heap a l) (hl : l.length ≤ 1000000) (hQ : ∀ t k, Q (.bytes (Array.mk l) t) { s with toks := k }) : wpAny (model prog w) A (call (.type "bytes") [.ref a]) Q Ex s := by
  refine callType_codes (Q₁ := fun obj s₁ => s₁.TypeIs obj "bytes" ∧ Q obj s₁) PySem.F.bm_called (PySem.F.bm_typeCall _) PySem.F.entry_object_init (ba_new_bytes hb hl fun t k => ⟨typeIs_bytes _ _ _, hQ t k⟩) fun obj s₁ h₁ => ?_
  exact ⟨h₁.1, PySem.F.args_object_init_2 obj _, object_init_meets PySem.F.bm_called.init.lookup PySem.F.bm_called.made (by decide) prog w A.in1 _ s₁ ⟨h₁.1, rfl, h₁.2⟩⟩
end
theorem own1_el {nf : Nat → Option Str} {sc : Scope} {i : Nat} {x : PySem.Expr} {C : PySem.Expr → Prop} (e : own1 nf sc i x = true) (k : ∀ y q, nf i = some y → okNm y = true → C (.Name y q)) : C x := by
  apply vName_el e; intro y q e
  obtain ⟨e1, e2⟩ := and_el e
  exact k y q (varOk_el e1).1 e2
theorem ownY_el {o : OO} {i : Nat} {P : List UInt8 → Prop} (h : ownY o i P) : ∃ l, o = some (i, .byt l) ∧ P l := by
  cases o with
  | none => exact h.elim
  | some p =>
    obtain ⟨hi, h⟩ := ifT_el h
    obtain ⟨j, w⟩ := p
    cases w with
    | lst l => exact h.elim
    | byt l => exact ⟨l, congrArg (fun j => some (j, Ow.byt l)) (Nat.eq_of_beq_eq_true hi), h⟩
section
variable {κ : Kt} {r : Slots} {oa : Option Addr} {σ : Sg} {i : Nat} {e k : E} {x : Str}
theorem Sr.octets {l : List UInt8} (s : Sr κ r (some (i, .byt l)) oa σ) : ∃ a x, oa = some a ∧ κ.nf i = some x ∧ At σ.s.heap κ.env x (.ref a) ∧ BAt σ.s.heap a l := by
  obtain ⟨a, e, _, _, x, h3, h4, h5⟩ := s.own
  exact ⟨a, x, e, h3, h4, h5⟩
theorem ss_setB (hk : Snd k) (he : Snd e) : SS (.setB i k e) := fun κ p X e r o oa σ Q R QF s ev kk => by
  apply vAsg_el e; intro ts v pos e
  apply on1_el e; intro t e
  apply vSub_el (C := fun t => Wt κ (exec (.Assign [t] v pos) κ.env) QF σ.s) e; intro ob y sp e
  obtain ⟨e1, e⟩ := and_el e
  obtain ⟨e2, e3⟩ := and_el e
  obtain ⟨e1, e4⟩ := and_el e1
  obtain ⟨e4, e5⟩ := and_el e4
  apply own1_el e5; intro x q hx hn
  refine g_Assign rfl e1 rfl ((he (κ.e r oa) v e3).1 σ _ _ (s.g X.toFy) ev fun w u σ1 x1 g1 R1 ev => ?_)
  obtain ⟨l, q, ev2⟩ := ownY_el ev
  cases q
  have s1 := s.step X.toFy x1 g1
  obtain ⟨a, y', rfl, hx', h4, h5⟩ := s1.octets
  cases hx.symm.trans hx'
  refine wpG_then (Q := fun _ => QF .next) ?_ fun _ _ h => wpG_pure h
  show Wt κ (assign (.Subscript (.Name x q) y sp) κ.env w) _ _
  rw [arm_assign_Subscript]
  refine wpG_hold (name_at (κ := κ.e r (some a)) X.ev.kind h4 hn ?_) fun w2 s h => h
  refine wpG_hold ((hk (κ.e r (some a)) y e2).1 σ1 _ _ g1 ev2 fun w2 u2 σ2 x2 g2 R2 ev => ?_) fun w2 s h => wpG_sat (wpG_then (wpG_holding h) fun _ _ h => h)
  have s2 := s1.step X.toFy x2 g2
  obtain ⟨_, _, q, _, _, h6⟩ := s2.octets
  cases q
  apply asI_el (C := fun w => Wt κ (setItem (.ref a) w2 w) _ σ2.s) ev (x2.rv R1); intro b t ev
  apply asI_el (C := fun w => Wt κ (setItem (.ref a) w (.int b t)) _ σ2.s) ev R2; intro j t' ev
  obtain ⟨⟨b0, b1, j0, jl, hl⟩, ev⟩ := ev
  exact wpG_of (ba_setItem h6 j0 jl hl b0 b1 fun h' sb hb => wpG_of (wpAny_release' (kk.nx _ _ _ _ (s2.own_put (w' := .byt _) X sb ⟨_, hb⟩ σ2.s.toks fun _ => hb) ev)))
theorem ss_retB : SS (.retB i) := fun κ p X e r o oa σ Q R QF s ev k => by
  apply vRet_el e; intro v pos e
  cases v with
  | none => cases e
  | some v =>
    apply vCall_el (C := fun v => Wt κ (exec (.Return (some v) pos) κ.env) QF σ.s) e; intro g es kw cp e
    obtain ⟨ek, e⟩ := and_el e
    obtain ⟨e1, e2⟩ := and_el e
    cases List.isEmpty_iff.mp (and_el ek).1
    apply on1_el (C := fun es => Wt κ (exec (.Return (some (.Call g es [] cp)) pos) κ.env) QF σ.s) e2; intro y e2
    apply own1_el e2; intro x q hx hn
    apply glob_el e1; intro pb h1 h2
    obtain ⟨l, rfl, hl, ev⟩ := ownY_el ev
    obtain ⟨a, x', rfl, hx', h4, h5⟩ := s.octets
    cases hx.symm.trans hx'
    have g := s.g X.toFy
    refine g_Ret (g_Call_Name (name_builtin g (g.ok.gb .bytes) (g.ok.bb .bytes) h1 h2 (g_callWith rfl ?_)))
    show wpG _ _ (spliced ((false, eval (.Name x q) κ.env) :: [])) _ _
    refine g_spl (name_at (κ := κ.e r (some a)) X.ev.kind h4 hn (wpG_of (spliced_none (pos := pos) (env := κ.env) ⟨keeps_machine (fun a q => nomatch q), wpG_of (call_bytes_ba h5 hl fun t tk => ?_)⟩)))
    have x1 := grow_ok (F := noF) s.inv (fun _ _ e => e) tk
    exact k.rt _ (.d (.bytes l)) _ _ _ _ (s.step X.toFy x1.1 (g.ext x1.1 x1.2)) ⟨t, rfl⟩ ev
end
end
section
namespace BA
theorem mro : mroOf (.type "bytearray") = pure [.type "bytearray", .type "object"] := by rw [mroOf_type]; kernel_rfl
theorem lookup_new : typeLookup (.type "bytearray") "__new__" = pure (some (.builtin "bytearray.__new__")) := by rw [typeLookup_type, builtinLookup_eq_fast]; kernel_rfl
theorem slot_init : Slot "bytearray" "__init__" "bytearray.__init__" :=
  .of (owner := "bytearray") (n := "__init__") (by rw [typeLookup_type, builtinLookup_eq_fast]; kernel_rfl) (by decide +kernel) (by decide +kernel) (by decide +kernel)
    (by first | exact .inl (by decide +kernel) | exact .inr (by decide +kernel)) (by rw [isSubtype_type]; kernel_rfl)
theorem called : TypeCalled "bytearray" "bytearray.__new__" "bytearray.__init__" :=
  ⟨by decide +kernel, by decide +kernel, ⟨_, _, mro⟩, madeBy_type mro lookup_new (by decide +kernel), by decide +kernel, sub_self, slot_init⟩
theorem typeCall (a : Value) : checkTypeCall "bytearray" ⟨[a], []⟩ = pure () := by kernel_rfl
theorem newCall (a : Value) : checkBuiltinCall "bytearray.__new__" ⟨[.type "bytearray", a], []⟩ = pure () := by kernel_rfl
theorem entry_list_new : fastTable "list.__new__" = some Builtin.«list.__new__» := by rw [fastTable_eq_tree]; kernel_rfl
theorem no_entry_new : fastTable "bytearray.__new__" = none := by rw [fastTable_eq_tree]; kernel_rfl
theorem entry_new : entryFor table "bytearray.__new__" = some Builtin.«list.__new__» :=
  entryFor_alias (id' := "list.__new__") no_entry_new (by decide +kernel) (by decide +kernel) entry_list_new
theorem plain_new : plainId "bytearray.__new__" = true := by decide +kernel
theorem entry_init : entryFor table "bytearray.__init__" = some Builtin.«bytearray.__init__» := by first | exact entryFor_of_tree (by kernel_rfl) | exact entryFor_of_fast (by kernel_rfl)
theorem args_init (a b : Value) : argsOk "bytearray.__init__" ⟨[a, b], []⟩ := by unfold argsOk; kernel_rfl
theorem bind_init (v : Value) : Builtin.Bytes.bindOptional "bytearray.__init__" "bytearray" ["source", "encoding", "errors"] [v] [] = pure [some v, none, none] := by kernel_rfl
set_option maxRecDepth 1000000 in
set_option maxHeartbeats 4000000 in
theorem owner_new : ("bytearray.__new__".splitOn ".__new__").headD "" = "bytearray" := by simp +decide [String.splitOn, String.splitOnAux]
end BA
section
variable {prog : Program} {w : World} {A : Around} {s : Shared} {Ex : Value → Shared → Prop}
theorem ba_new (a : Value) {Q₁ : Value → Shared → Prop} (h : Q₁ (.ref s.heap.objs.size) { s with heap := s.heap.push { cls := .type "bytearray", data := .bytearray #[] } }) :
    codeAny (model prog w) A (.call (.builtin "bytearray.__new__") ⟨[.type "bytearray", a], []⟩) (wants Q₁ Ex) s := by
  refine codeAny_of_tree ?_
  show wpAny _ A.in1 (do checkBuiltinCall "bytearray.__new__" ⟨[.type "bytearray", a], []⟩; again (.builtin "bytearray.__new__" ⟨[.type "bytearray", a], []⟩)) _ _ s
  refine wpAny_bind (wpAny_of_eq (BA.newCall a) (wpAny_pure ⟨plainId_quiet BA.plain_new _, codeAny_builtin_stack BA.entry_new rfl fun p st => ?_⟩))
  rw [Around.under_plainId BA.plain_new _]
  have hsub := BA.sub_self
  have hown := BA.owner_new
  obtain ⟨hp, g, d, tk, os⟩ := s
  simp only [hown]
  wp_walk
  exact h
theorem wpG_any' {α β : Type} {M : Model} {m : Sem α} {f : α → Sem β} {Q : β → Shared → Prop} (h : wpAny M A m (fun a s' => wpG M A (f a) Q s') noE s) : wpG M A (m >>= f) Q s := wpG_bind (wpG_of h)
theorem wpG_of_eq' {α : Type} {M : Model} {m : Sem α} {a : α} {Q : α → Shared → Prop} (e : m = pure a) (h : Q a s) : wpG M A m Q s := e ▸ wpG_pure h
theorem ba_exported {a : Addr} {Q : Bool → Shared → Prop} (h : Q false s) : wpG (model prog w) A (Builtin.Bytes.exported (.ref a)) Q s := fun Γ p hΓ g => by
  unfold Builtin.Bytes.exported
  rw [Sem.wp_bind']
  show Sem.wp _ Γ stack _ _ p s
  unfold stack
  rw [Sem.wp_stack]
  show Q (((Γ.code, p) :: Γ.below).any _) s
  have all : ∀ x ∈ (Γ.code, p) :: Γ.below, okCode x.1 = true := by
    intro x hx
    rcases List.mem_cons.mp hx with rfl | hx
    · exact g.1
    · exact g.2 x hx
  have e : ∀ (l : List (Code × Pos)) (f : Code × Pos → Bool), (∀ x ∈ l, f x = false) → l.any f = false := fun l f h => List.any_eq_false.mpr fun x hx => by rw [h x hx]; simp
  rw [e _ _ fun x hx => ?_]
  · exact h
  · have ok := all x hx
    obtain ⟨c, q⟩ := x
    cases c with
    | builtin id args =>
      obtain ⟨ps, kw⟩ := args
      have ok : (id == "claim.caller" || id == "type.__call__" || id == "bytearray.__init__") = true := ok
      rw [Bool.or_eq_true, Bool.or_eq_true, beq_iff_eq, beq_iff_eq, beq_iff_eq] at ok
      rcases ok with (rfl | rfl) | rfl <;> (cases ps with
        | nil => rfl
        | cons v l => exact Bool.and_false _)
    | _ => rfl
theorem ba_exports {a : Addr} {l : List UInt8} {Q : Nat → Shared → Prop} (hb : BAt s.heap a l) (h : Q 0 s) : wpAny (model prog w) A (Builtin.Bytes.exportsOf (.ref a)) Q Ex s := by
  unfold Builtin.Bytes.exportsOf
  exact wpAny_bind (wpAny_load hb (wpAny_pure h))
theorem ba_init {a : Addr} {n : Int} {t : Tok} {l : List UInt8} {Q : Flow → Shared → Prop} (hb : BAt s.heap a l) (h0 : 0 ≤ n) (h8 : n ≤ 8) (h : ∀ h', Heap.SameBut a s.heap h' → BAt h' a (List.replicate n.toNat 0) → Q (.ret .none) { s with heap := h' }) :
    wpG (model prog w) A (Builtin.«bytearray.__init__» ⟨[.ref a, .int n t], []⟩) (fun fin s' => ∃ f, fin = .done f ∧ Q f s') s := by
  unfold Builtin.«bytearray.__init__»
  refine wpG_any' (ba_release hb ?_)
  refine wpG_iff rfl ?_
  refine wpG_bind (wpG_of_eq' (BA.bind_init _) ?_)
  refine wpG_bind (wpG_of_eq' (a := ()) rfl ?_)
  refine wpG_bind (wpG_of_eq' (a := ()) rfl ?_)
  have hor : ∀ Q : Bool → Shared → Prop, Q false s → wpG (model prog w) A (Builtin.Bytes.exported (.ref a) <||> (do let e ← Builtin.Bytes.exportsOf (.ref a); pure (decide (e > 0)))) Q s := fun Q hq => by
    show wpG _ _ (orM _ _) _ _
    unfold orM
    refine wpG_bind (ba_exported ?_)
    show wpG _ _ (do let e ← Builtin.Bytes.exportsOf (.ref a); pure (decide (e > 0))) _ _
    exact wpG_any' (ba_exports hb (wpG_pure hq))
  refine wpG_bind (hor _ ?_)
  refine wpG_iff rfl ?_
  refine wpG_any' (ba_write (f := fun _ => #[]) (l' := []) hb rfl (by decide) fun h1 sb1 hb1 => ?_)
  show wpG _ _ (asStr? (.int n t) >>= _) _ _
  refine wpG_bind (wpG_of_eq' (a := none) rfl ?_)
  refine wpG_iff rfl ?_
  refine wpG_bind (wpG_iff rfl (wpG_iff rfl (wpG_pure ?_)))
  refine wpG_any' (wpAny_specialOf (T := "int") (typeIs_int _ n t) int_index ?_)
  refine wpG_ift rfl ?_
  refine wpG_bind (wpG_attempt (wpG_of_eq' (a := n) rfl ?_))
  dsimp only
  refine wpG_iff (by simp [Builtin.Bytes.fitsIndex]; omega) ?_
  rw [if_neg (by omega)]
  refine wpG_iff (by rw [beq_eq_false_iff_ne]; omega) ?_
  refine wpG_iff (by simp [Builtin.Bytes.tooLong, sizeLine_eq]; omega) ?_
  refine wpG_any' (wpAny_rule ?_)
  by_cases hn : n > 0
  · rw [if_pos hn]
    refine wpG_any' (ba_write (f := fun _ => Array.replicate n.toNat 0) (l' := List.replicate n.toNat 0) hb1 (by simp) (by simp; omega) fun h2 sb2 hb2 => ?_)
    exact wpG_pure ⟨_, rfl, h h2 (sb1.trans sb2) hb2⟩
  · rw [if_neg hn]
    have : n.toNat = 0 := by omega
    rw [this] at h
    exact wpG_pure ⟨_, rfl, h h1 sb1 hb1⟩
theorem wpG_callSpecial {self : Value} {T : String} {name : Str} {id : String} {args : List Value} {Q : Option Value → Shared → Prop} (hT : s.TypeIs self T) (h : Slot T name id)
    (hc : wpG (model prog w) A (PySem.call (.builtin id) (self :: args) []) (fun v => Q (some v)) s) : wpG (model prog w) A (callSpecial? self name args []) Q s := by
  simp only [callSpecial?]
  refine wpG_any' (wpAny_specialOf hT h.lookup ?_)
  simp only [h.bind]
  exact wpG_holding (wpG_bind (wpG_pure (wpG_bind (wpG_mono hc fun v s' h' => wpG_pure h'))))
theorem call_bytearray {n : Int} {t : Tok} {Q : Value → Shared → Prop} (h0 : 0 ≤ n) (h8 : n ≤ 8)
    (h : ∀ h', Heap.SameBut s.heap.objs.size (s.heap.push { cls := .type "bytearray", data := .bytearray #[] }) h' → BAt h' s.heap.objs.size (List.replicate n.toNat 0) → Q (.ref s.heap.objs.size) { s with heap := h' }) :
    wpG (model prog w) A (PySem.call (.type "bytearray") [.int n t]) Q s := by
  have ft := BA.called
  have hsub := ft.sub
  refine wpG_call (codeG_of_tree rfl ?_)
  show wpG _ _ (callAny (.type "bytearray") _) _ _
  refine wpG_pure (.inl ⟨Code.quiet_builtin _ (by decide +kernel), codeG_builtin rfl PySem.F.entry_type_call ?_⟩)
  rw [Around.under_plain (weight_type_call_type "bytearray" [.int n t] []) rfl]
  unfold Builtin.«type.__call__»
  dsimp only
  refine wpG_iff (by decide) ?_
  refine wpG_iff ft.canCreate ?_
  refine wpG_bind (wpG_of_eq' (BA.typeCall _) ?_)
  refine wpG_bind (wpG_of_eq' BA.mro ?_)
  refine wpG_iff rfl ?_
  refine wpG_bind (wpG_of_eq' ft.made ?_)
  dsimp only
  refine wpG_bind (wpG_pure ?_)
  refine wpG_bind (wpG_holding (wpG_of (wpAny_call (ba_new (Ex := noE) _ ?_))))
  have hfr : ({ cls := .type "bytearray", data := .bytearray #[] } : Obj).isFreed = false := rfl
  have hb : BAt (s.heap.push { cls := .type "bytearray", data := .bytearray #[] }) s.heap.objs.size [] := Heap.get?_push_size _ hfr
  have hT : ({ s with heap := s.heap.push { cls := .type "bytearray", data := .bytearray #[] } } : Shared).TypeIs (.ref s.heap.objs.size) "bytearray" := ba_type (s := { s with heap := s.heap.push { cls := .type "bytearray", data := .bytearray #[] } }) hb
  refine wpG_any' (wpAny_isInstance hT BA.sub_self ?_)
  refine wpG_iff rfl ?_
  refine wpG_bind (wpG_holding (wpG_callSpecial hT BA.slot_init ?_))
  refine wpG_call (codeG_of_tree rfl ?_)
  show wpG _ _ (do checkBuiltinCall "bytearray.__init__" ⟨[.ref s.heap.objs.size, .int n t], []⟩; again (.builtin "bytearray.__init__" ⟨[.ref s.heap.objs.size, .int n t], []⟩)) _ _
  refine wpG_any' (BA.slot_init.check _ _ _ _ _ _ _ _ hT (BA.args_init _ _) (wpG_pure (.inl ⟨plainId_quiet (by decide +kernel) _, codeG_builtin rfl BA.entry_init ?_⟩)))
  refine wpG_mono (ba_init (s := { s with heap := s.heap.push { cls := .type "bytearray", data := .bytearray #[] } }) (Q := fun f s' => f = .ret .none ∧ Q (.ref s.heap.objs.size) s') hb h0 h8 fun h' sb hb' => ⟨rfl, h h' sb hb'⟩) fun fin s' hfin => ?_
  obtain ⟨f, rfl, rfl, hq⟩ := hfin
  refine ⟨_, rfl, ?_⟩
  refine wpG_iff rfl ?_
  exact wpG_pure ⟨_, rfl, hq⟩
end
section
variable {i : Nat} {e : E}
theorem ss_ownB (he : Snd e) : SS (.ownB i e) := fun κ p X e r o oa σ Q R QF s ev k => by
  apply vAsg_el e; intro ts v pos e
  apply on1_el e; intro t e
  obtain ⟨e1, e⟩ := and_el e
  apply vName_el (C := fun t => Wt κ (exec (.Assign [t] v pos) κ.env) QF σ.s) e1; intro x q e1
  apply vCall_el (C := fun v => Wt κ (exec (.Assign [.Name x q] v pos) κ.env) QF σ.s) e; intro g es kw cp e
  obtain ⟨ek, e⟩ := and_el e
  obtain ⟨e2, e3⟩ := and_el e
  cases List.isEmpty_iff.mp (and_el ek).1
  apply on1_el (C := fun es => Wt κ (exec (.Assign [.Name x q] (.Call g es [] cp) pos) κ.env) QF σ.s) e3; intro y e3
  obtain ⟨e3, e4⟩ := and_el e3
  have e5 : decL κ.nf [_] κ.env.scope [y] = true := Bool.and_eq_true_iff.mpr ⟨e3, Bool.and_eq_true_iff.mpr ⟨e4, rfl⟩⟩
  obtain ⟨hx, hv⟩ := varOk_el e1
  obtain ⟨rfl, ev⟩ := noO_el ev
  obtain ⟨hi, ev⟩ := lone_el ev
  obtain rfl : oa = none := s.own
  apply glob_el e2; intro pb h1 h2
  have g := s.g X.toFy
  refine g_Assign rfl rfl (o := none) rfl (g_Call_Name (name_builtin g g.ok.gy g.ok.by' h1 h2 (g_callWith ((backTo_any _ _).trans (decL_star e5)) ((snd_cons he snd_nil).sl (κ.e r none) [y] e5 _ σ (fun vs s => one vs fun v => kOwnB i r Q v s) _ g ev fun ws us σ1 x1 g1 R1 _ ev => ⟨keeps_machine (fun a q => nomatch q), ?_⟩))))
  apply one_el (C := fun ws => Wt κ (call (.type "bytearray") ws) _ σ1.s) ev R1; intro v w ev R1
  apply asI_el (C := fun w => Wt κ (call (.type "bytearray") [w]) _ σ1.s) ev R1; intro n t ev
  have s1 := s.step X.toFy x1 g1
  refine call_bytearray ev.1.1 ev.1.2 fun h' sb hb => ?_
  obtain ⟨s2, nz, hb', _⟩ := s1.aside X (h' := h') (fun b o e => (sb.2 b (Nat.ne_of_lt (Heap.lt_size e))).trans (push_kk _ b o e)) (Heap.get?_none_of_le (Nat.le_refl _)) ⟨_, hb⟩ σ1.s.toks
  refine wpG_then (Q := fun _ => QF .next) (wpG_of (wpAny_assign_Name (own_store (w := .byt _) X s2 nz hb' hx hv hi hb fun σ2 s2 _ e => k.nx _ _ _ _ s2 (e ▸ ev.2)))) fun _ _ h => wpG_pure h
end
end
section
structure Stay (Z Z' : Addr → Prop) (σ σ' : Sg) : Prop where
  kp : Kp (Xs σ.ft Z) σ.s.heap σ'.s.heap
  back : ∀ a o, σ.s.heap.get? a = some o → Xs σ'.ft Z' a → Xs σ.ft Z a
  lock : ∀ (i : Nat) l p, σ.S[i]? = some (.lock l) → σ.ft[i]? = some p → (σ'.S[i]? = some (.lock l) ∧ σ'.ft[i]? = some p) ∧ σ'.s.heap.get? p.2 = σ.s.heap.get? p.2
def NoGo (I : Addr) (h : Heap) : Prop := ∃ o n vs, h.get? I = some o ∧ o.cls = .type n ∧ o.data = .fields vs ∧ (["enumerate", "zip", "dict_itemiterator", "dict_reverseitemiterator", "odict_iterator", "itertools.zip_longest", "itertools.pairwise"].contains n) = false
structure Iter (c : Cx) (A : Around) (I : Addr) (J : (Addr → Prop) → Sg → List D → Prop) : Prop where
  stay : ∀ {Z Z' σ σ' ds}, J Z σ ds → Stay Z Z' σ σ' → (∀ o, σ.s.heap.get? I = some o → σ'.s.heap.get? I = some o) → J Z' σ' ds
  nx : ∀ {Z σ d ds Q}, Inv c Z σ → Z I → J Z σ (d :: ds) → (∀ v h' t, (∀ b o, b ≠ I → σ.s.heap.get? b = some o → h'.get? b = some o) → NoGo I h' → Rd Z (σ.to h' t) d v → J Z (σ.to h' t) ds → Q (some v) { σ.s with heap := h', toks := t }) → wpAny (model c.prog c.w) A (pyNext (.ref I)) Q noE σ.s
  dn : ∀ {Z σ Q}, J Z σ [] → (∀ h' t, (∀ b o, b ≠ I → σ.s.heap.get? b = some o → h'.get? b = some o) → Q none { σ.s with heap := h', toks := t }) → wpAny (model c.prog c.w) A (pyNext (.ref I)) Q noE σ.s
  self : ∀ {Z σ ds Q}, J Z σ ds → Q (.ref I) σ.s → wpAny (model c.prog c.w) A (pyIter (.ref I)) Q noE σ.s
section
variable {c : Cx} {A : Around} {I : Addr} {fp : List Addr} {m : Nat} {P : Nat → Value → Prop} {St : Nat → Heap → Prop} {all : List D} {R : (Addr → Prop) → Sg → Prop} {Z Z' : Addr → Prop} {σ σ' : Sg} {h' : Heap}
theorem Stay.poke (J : Inv c Z σ) (z : Z I) (kb : ∀ b o, b ≠ I → σ.s.heap.get? b = some o → h'.get? b = some o) (t : Nat) : Stay Z Z σ (σ.to h' t) :=
  ⟨fun b o e n => kb b o (fun q => n (.inr (q ▸ z))) e, fun _ _ _ m => m, fun i l p e1 e2 => by
    obtain ⟨o, e⟩ := J.ms_in (ms_mem e2)
    exact ⟨⟨e1, e2⟩, (kb _ _ (fun q => J.zm I z (q ▸ ms_mem e2)) e).trans e.symm⟩⟩
theorem Stay.ext (x : Ext noF σ σ') : Stay Z Z σ σ' := ⟨x.kpN, x.back, fun i l p e1 e2 => ⟨⟨(x.lock i l p e1 e2).1, x.pre i p e2⟩, (x.lock i l p e1 e2).2⟩⟩
def Its (I : Addr) (m : Nat) (St : Nat → Heap → Prop) (all : List D) (R : (Addr → Prop) → Sg → Prop) (Z : Addr → Prop) (σ : Sg) (ds : List D) : Prop := ∃ i, i + ds.length = m ∧ St i σ.s.heap ∧ R Z σ ∧ ds = all.drop i
theorem iter_of (W : Walks c.prog c.w A I fp [I] m P St) (len : all.length = m) (live : ∀ i h, St i h → NoGo I h)
    (fix : ∀ Z σ, R Z σ → ∀ b ∈ fp, b = I ∨ ¬ Xs σ.ft Z b ∨ ∃ (j : Nat) (l : List (Key × V)) (p : Addr × Addr), σ.S[j]? = some (.lock l) ∧ σ.ft[j]? = some p ∧ b = p.2)
    (st : ∀ Z Z' σ σ', R Z σ → Stay Z Z' σ σ' → R Z' σ') (it : ∀ Z σ i d v, R Z σ → all[i]? = some d → P i v → Rd Z σ d v) : Iter c A I (Its I m St all R) where
  stay := by
    rintro Z Z' σ σ' ds ⟨i, h1, h2, h3, h4⟩ s kI
    refine ⟨i, h1, W.frame i _ _ h2 fun b hb o e => ?_, st _ _ _ _ h3 s, h4⟩
    rcases fix _ _ h3 b hb with rfl | n | ⟨j, l, p, q1, q2, rfl⟩
    · exact kI o e
    · exact s.kp b o e n
    · exact (s.lock j l p q1 q2).2.trans e
  nx := by
    rintro Z σ d ds Q J z ⟨i, h1, h2, h3, h4⟩ k
    have hd : all[i]? = some d := by rw [← List.head?_drop, ← h4]; rfl
    refine W.item i σ.s _ _ (by rw [← h1]; exact Nat.lt_add_of_pos_right (Nat.succ_pos _)) h2 fun v h' t hp hs keep => ?_
    have kb : ∀ b o, b ≠ I → σ.s.heap.get? b = some o → h'.get? b = some o := fun b o n e => keep b o (fun q => n (List.mem_singleton.mp q)) e
    have r := st _ _ _ _ h3 (Stay.poke J z kb t)
    exact k v h' t kb (live _ _ hs) (it _ _ i d v r hd hp) ⟨i + 1, by rw [← h1, List.length_cons, Nat.add_assoc, Nat.add_comm 1], hs, r, by rw [← List.tail_drop, ← h4]; rfl⟩
  dn := by
    rintro Z σ Q ⟨i, rfl, h2, h3, h4⟩ k
    exact W.done σ.s _ _ h2 fun h' t keep => k h' t fun b o n e => keep b o (fun q => n (List.mem_singleton.mp q)) e
  self := by
    rintro Z σ ds Q ⟨i, h1, h2, _⟩ k
    exact W.self i σ.s _ _ h2 k
def Opens (c : Cx) (A : Around) (Z : Addr → Prop) (σ : Sg) (w : Value) (ds : List D) : Prop :=
  ∃ ob J, ob.isFreed = false ∧ Iter c A σ.s.heap.objs.size J ∧ (∀ Q : Value → Shared → Prop, Q (.ref σ.s.heap.objs.size) { σ.s with heap := σ.s.heap.push ob } → wpAny (model c.prog c.w) A (pyIter w) Q noE σ.s) ∧
    ∀ Z' : Addr → Prop, (∀ a o, σ.s.heap.get? a = some o → Z' a → Z a) → J Z' (σ.to (σ.s.heap.push ob) σ.s.toks) ds
theorem nogo {h : Heap} {n : String} {vs : Array Value} {o : Obj} (e : h.get? I = some o) (e1 : o.cls = .type n) (e2 : o.data = .fields vs) (q : (["enumerate", "zip", "dict_itemiterator", "dict_reverseitemiterator", "odict_iterator", "itertools.zip_longest", "itertools.pairwise"].contains n) = false) : NoGo I h := ⟨_, _, _, e, e1, e2, q⟩
theorem open_seq {a : Addr} {l : List D} {ws : List Value} {ob : Obj} {w : Value} {o : Obj} (W : Walks c.prog c.w A σ.s.heap.objs.size [σ.s.heap.objs.size, a] [σ.s.heap.objs.size] ws.length (fun i v => (Array.mk ws)[i]? = some v) St) (live : ∀ i h, St i h → NoGo σ.s.heap.objs.size h) (fo : ob.isFreed = false)
    (ho : σ.s.heap.get? a = some o) (nx : ¬ Xs σ.ft Z a) (Rs : All2 (Rd Z σ) l ws) (hS : St 0 (σ.s.heap.push ob)) (hp : ∀ Q : Value → Shared → Prop, Q (.ref σ.s.heap.objs.size) { σ.s with heap := σ.s.heap.push ob } → wpAny (model c.prog c.w) A (pyIter w) Q noE σ.s) : Opens c A Z σ w l := by
  refine ⟨ob, Its σ.s.heap.objs.size ws.length St l (fun Z σ => (¬ Xs σ.ft Z a ∧ ∃ o, σ.s.heap.get? a = some o) ∧ All2 (Rd Z σ) l ws), fo, iter_of W Rs.length.symm live (fun Z' σ' r b hb => ?_) (fun Z Z' σ σ' r s => ?_) (fun Z' σ' i d v r hd hv => ?_), hp, fun Z' hz => ⟨0, by rw [Nat.zero_add]; exact Rs.length.symm, hS, ⟨⟨fun m => nx (m.imp id (hz a o ho)), o, push_kk _ _ _ ho⟩, ?_⟩, rfl⟩⟩
  · rcases List.mem_cons.mp hb with rfl | hb
    · exact .inl rfl
    · rw [List.mem_singleton.mp hb]; exact .inr (.inl r.1.1)
  · obtain ⟨⟨n, o, e⟩, r⟩ := r
    exact ⟨⟨fun m => n (s.back a o e m), o, s.kp a o e n⟩, r.imp fun d w R => Rep.move s.kp s.back d R⟩
  · obtain ⟨w, e, R⟩ := r.2.get hd
    rw [show (Array.mk ws)[i]? = ws[i]? from List.getElem?_toArray] at hv
    cases e.symm.trans hv
    exact R
  · exact Rs.imp fun d w R => Rep.move (fun b o e _ => push_kk _ _ _ e) (fun a o e m => m.imp id (hz a o e)) d R
theorem open_list {w : Value} {l : List D} (hh : A.handled = none) (R : Rd Z σ (.lst l) w) : Opens c A Z σ w l := by
  obtain ⟨a, ws, rfl, ⟨z, p⟩, nx, Rs⟩ := R
  have p' : σ.s.heap.PlainList a (Array.mk ws) := ⟨z, p⟩
  exact open_seq (ob := { cls := .type "list_iterator", data := .fields #[.ref a, .int 0 0] }) (Walks.list hh _ a (Nat.ne_of_lt (Heap.lt_size p)) (Array.mk ws)) (fun i h s => let ⟨o, e1, e2, e3⟩ := s.1; nogo e1 e2 e3 (by decide)) rfl p nx Rs.all ⟨⟨_, Heap.get?_push_size _ rfl, rfl, rfl⟩, p'.isList.push _⟩ fun Q h => wpAny_pyIter_list p'.isList h
theorem open_tuple {w : Value} {l : List D} (hh : A.handled = none) (R : Rd Z σ (.tup l) w) : Opens c A Z σ w l := by
  obtain ⟨a, ws, rfl, pt, nx, Rs⟩ := R
  obtain ⟨z, p⟩ := id pt
  have P' : σ.s.heap.IsTuple a (Array.mk ws) := pt.isTup
  exact open_seq (ob := { cls := .type "tuple_iterator", data := .fields #[.ref a, .int 0 0] }) (Walks.tuple hh _ a (Nat.ne_of_lt (Heap.lt_size p)) (Array.mk ws)) (fun i h s => let ⟨o, e1, e2, e3⟩ := s.1; nogo e1 e2 e3 (by decide)) rfl p nx Rs.all ⟨⟨_, Heap.get?_push_size _ rfl, rfl, rfl⟩, P'.push _⟩ fun Q h => iter_tuple pt.isTup h
theorem open_dict {p : Addr × Addr} {j : Nat} {l : List (Key × V)} (hh : A.handled = none) (J : Inv c Z σ) (hj : σ.S[j]? = some (.lock l)) (hp : σ.ft[j]? = some p) : Opens c A Z σ (.ref p.1) (l.map (·.1.d)) := by
  obtain ⟨pe, kvs, D, RK⟩ := J.at' hp hj
  obtain ⟨ep, hat⟩ := D.dictAt
  obtain ⟨o, _, ho, _⟩ := id hat
  refine ⟨{ cls := .type "dict_keyiterator", data := .fields #[.ref p.2, .int 0 0, .int kvs.length 0, .int ep 0] }, Its _ kvs.length _ (l.map (·.1.d)) (fun Z σ => σ.S[j]? = some (.lock l) ∧ σ.ft[j]? = some p), rfl, iter_of (Walks.dictKeys (knd := mixKind c.prog c.w) hh σ.s.heap.objs.size p.2 (Nat.ne_of_lt (Heap.lt_size ho)) kvs ep) (by rw [List.length_map]; exact RK.length.symm) (fun i h s => let ⟨o, e1, e2, e3⟩ := s.1; nogo e1 e2 e3 (by decide)) (fun Z' σ' r b hb => ?_) (fun Z Z' σ σ' r s => (s.lock j l p r.1 r.2).1) (fun Z' σ' i d v r hd hv => ?_), fun Q h => pe ▸ wpAny_pyIter_dict (by rw [beq_eq_false_iff_ne]; exact J.nsy p (List.mem_of_getElem? hp) pe) hat h, fun Z' hz => ⟨0, by rw [Nat.zero_add, List.length_map]; exact RK.length.symm, ⟨⟨_, Heap.get?_push_size _ rfl, rfl, rfl⟩, hat.push _⟩, ⟨hj, hp⟩, rfl⟩⟩
  · rcases List.mem_cons.mp hb with rfl | hb
    · exact .inl rfl
    · rw [List.mem_singleton.mp hb]; exact .inr (.inr ⟨_, _, _, r.1, r.2, rfl⟩)
  · obtain ⟨k, x, e1, e2⟩ := hv
    rw [List.getElem?_map] at hd
    obtain ⟨q, e3, rfl⟩ := Option.map_eq_some_iff.mp hd
    obtain ⟨kv, e4, e5, _⟩ := RK.get e3
    cases e1.symm.trans e4
    have hk : keyV k v := of_decide_eq_true (inst := Classical.propDecidable _) e2
    rw [show q.1 = k from e5]
    cases k <;> exact hk
end
end
section
theorem rngL_at {n : Nat} {a : Int} {i : Nat} : i < n → (rngL a n)[i]? = some (.int (a + i * 1)) := by
  induction n generalizing a i with
  | zero => exact fun h => absurd h (Nat.not_lt_zero i)
  | succ n ih =>
    intro h
    cases i with
    | zero => exact congrArg (fun z => some (D.int z)) (Int.add_zero a).symm
    | succ i =>
      refine (ih (Nat.lt_of_succ_lt_succ h)).trans (congrArg (fun z => some (D.int z)) ?_)
      omega
theorem rngL_len {n : Nat} {a : Int} : (rngL a n).length = n := by
  induction n generalizing a with
  | zero => rfl
  | succ n ih => exact congrArg (· + 1) ih
theorem rngD_at {n : Nat} {a : Int} {i : Nat} : i < n → (rngD a n)[i]? = some (.int (a + i * -1)) := by
  induction n generalizing a i with
  | zero => exact fun h => absurd h (Nat.not_lt_zero i)
  | succ n ih =>
    intro h
    cases i with
    | zero => exact congrArg (fun z => some (D.int z)) (Int.add_zero a).symm
    | succ i =>
      refine (ih (Nat.lt_of_succ_lt_succ h)).trans (congrArg (fun z => some (D.int z)) ?_)
      omega
theorem rngD_len {n : Nat} {a : Int} : (rngD a n).length = n := by
  induction n generalizing a with
  | zero => rfl
  | succ n ih => exact congrArg (· + 1) ih
theorem size_up (a b : Int) : Builtin.Range.rangeSize a b 1 = ((b - a).toNat : Int) := by
  unfold Builtin.Range.rangeSize
  rw [if_pos (by decide), Int.ediv_one]
  split <;> omega
theorem size_down (a b : Int) : Builtin.Range.rangeSize a b (-1) = ((a - b).toNat : Int) := by
  unfold Builtin.Range.rangeSize
  rw [if_neg (by decide), show -(-1 : Int) = 1 from rfl, Int.ediv_one]
  split <;> omega
theorem small_ok {a b k : Int} {m : Nat} (ha : -1000000000 ≤ a ∧ a ≤ 1000000000) (hb : -1000000000 ≤ b ∧ b ≤ 1000000000) (hk : k = 1 ∨ k = -1) (hm : Builtin.Range.rangeSize a b k = m) (h : (m : Int) ≤ 2000000000) : Builtin.Range.small a b k = true := by
  unfold Builtin.Range.small
  rw [hm]
  simp only [Builtin.Range.rangeFitsLong, Bool.and_eq_true, decide_eq_true_eq]
  have e : (2 : Int) ^ 63 = 9223372036854775808 := by decide
  rw [e]
  rcases hk with rfl | rfl <;> refine ⟨⟨⟨⟨?_, ?_⟩, ?_⟩, ?_⟩, ?_⟩ <;> first | decide | omega | (simp; omega) | trace_state
section
variable {c : Cx} {A : Around} {Z : Addr → Prop} {σ : Sg}
theorem open_range {a b k : Int} {t u v : Tok} {rr : Addr} {m : Nat} {ds : List D} (hh : A.handled = none) (hr : IsRange σ.s.heap rr a b k t u v) (hs : Builtin.Range.small a b k = true) (hm : Builtin.Range.rangeSize a b k = (m : Int)) (hl : ds.length = m) (hd : ∀ i, i < m → ds[i]? = some (.int (a + i * k))) : Opens c A Z σ (.ref rr) ds := by
  refine ⟨{ cls := .type "range_iterator", data := .fields #[rawInt a, rawInt (Builtin.Range.rangeSize a b k), rawInt k] }, Its _ m _ ds fun _ _ => True, rfl, iter_of (Walks.range hh σ.s.heap.objs.size a k m) hl (fun i h s => nogo s rfl rfl (by decide)) (fun Z σ _ b hb => .inl (List.mem_singleton.mp hb)) (fun _ _ _ _ _ _ => trivial) (fun Z σ i d v _ e p => ?_), fun Q h => wpAny_pyIter_range hr hs h, fun Z' _ => ⟨0, by rw [Nat.zero_add, hl], ?_, trivial, rfl⟩⟩
  · obtain ⟨t, rfl⟩ := p
    cases (hd i (hl ▸ (List.getElem?_eq_some_iff.mp e).1)).symm.trans e
    exact ⟨t, rfl⟩
  · show IsRangeIter _ _ (a + ((0 : Nat) : Int) * k) ((m : Int) - ((0 : Nat) : Int)) k
    rw [show a + ((0 : Nat) : Int) * k = a by simp, show (m : Int) - ((0 : Nat) : Int) = Builtin.Range.rangeSize a b k by rw [hm]; simp]
    exact Heap.get?_push_size _ rfl
noncomputable def SrcOK (c : Cx) (A : Around) (Z : Addr → Prop) (σ : Sg) (w : Value) (s : Src) : Prop := s.casesOn (Opens c A Z σ w) fun j l => σ.S[j]? = some (.dict l) ∧ ∃ p, σ.ft[j]? = some p ∧ w = .ref p.1
end
section
variable {κ : Kx} {σ : Sg} {P : Store → Src → Prop} {Q : Value → Shared → Prop} {it : List E} {i : PySem.Expr}
theorem call_range {vs : List V} {ws : List Value} (g : G κ σ) (R : Rvs κ.Z σ vs ws) (ev : rngP vs fun l => P σ.S (.items l)) (k : ∀ w σ' src, Ext noF σ σ' → G κ σ' → SrcOK κ.c κ.A κ.Z σ' w src → P σ'.S src → Q w σ'.s) : W κ (call (.type "range") ws) Q σ.s := by
  have fin : ∀ {a b c : Int} {t u v : Tok} {z m : Nat} {ds : List D}, (-1000000000 ≤ a ∧ a ≤ 1000000000) → (-1000000000 ≤ b ∧ b ≤ 1000000000) → (c = 1 ∨ c = -1) → Builtin.Range.rangeSize a b c = (m : Int) → (m : Int) ≤ 2000000000 → ds.length = m → (∀ i, i < m → ds[i]? = some (.int (a + i * c))) → P σ.S (.items ds) →
      Q (.ref σ.s.heap.objs.size) { σ.s with heap := σ.s.heap.push { cls := .type "range", data := .fields #[.int a t, .int b u, .int c v] }, toks := z } := fun {a b c t u v z m ds} ha hb hc hm hz hl hd p => by
    have x := grow_ok (F := noF) g.inv (push_kk { cls := .type "range", data := .fields #[.int a t, .int b u, .int c v] }) z
    exact k _ (σ.to _ z) (.items ds) x.1 (g.ext x.1 x.2) (open_range (m := m) g.bud.hd (IsRange.new _ a b c t u v) (small_ok ha hb hc hm hz) hm hl hd) p
  cases vs with
  | nil => exact ev.elim
  | cons u vs =>
    obtain ⟨w, ws, rfl, R1, R⟩ := R
    apply asI_el (C := fun w => W κ (call (.type "range") (w :: ws)) Q σ.s) ev R1; intro a t ev
    cases vs with
    | nil =>
      cases R
      obtain ⟨⟨h1, h2⟩, ev⟩ := ev
      exact wpG_of (call_range_1 (fin (m := a.toNat) (by decide) ⟨Int.le_of_lt h1, Int.le_of_lt h2⟩ (.inl rfl) (by rw [size_up, Int.sub_zero]) (by omega) rngL_len (fun i => rngL_at) ev))
    | cons u vs =>
      obtain ⟨w, ws, rfl, R2, R⟩ := R
      apply asI_el (C := fun w => W κ (call (.type "range") (.int a t :: w :: ws)) Q σ.s) ev R2; intro b t' ev
      cases vs with
      | nil =>
        cases R
        obtain ⟨⟨⟨h1, h2⟩, h3, h4⟩, ev⟩ := ev
        exact wpG_of (call_range_2 (fin (m := (b - a).toNat) ⟨Int.le_of_lt h1, Int.le_of_lt h2⟩ ⟨Int.le_of_lt h3, Int.le_of_lt h4⟩ (.inl rfl) (size_up a b) (by omega) rngL_len (fun i => rngL_at) ev))
      | cons u vs =>
        obtain ⟨w, ws, rfl, R3, R⟩ := R
        apply asI_el (C := fun w => W κ (call (.type "range") (.int a t :: .int b t' :: w :: ws)) Q σ.s) ev R3; intro c t'' ev
        cases vs with
        | cons => exact ev.elim
        | nil =>
          cases R
          obtain ⟨⟨rfl, ⟨h1, h2⟩, h3, h4⟩, ev⟩ := ev
          exact wpG_of (PySem.call_range_3 (by decide) (fin (m := (a - b).toNat) (z := σ.s.toks) ⟨Int.le_of_lt h1, Int.le_of_lt h2⟩ ⟨Int.le_of_lt h3, Int.le_of_lt h4⟩ (.inr rfl) (size_down a b) (by omega) rngD_len (fun i => rngD_at) ev) (.inl (PyProof.noPylong_small (by omega))))
theorem src_el {rg : Bool} (hl : SndL it) (e : @Bool.rec (fun _ => Bool) (decX κ.nf it κ.env.scope (some i)) (vCall i fun f es kw _ => plain kw es && (glob κ.env.scope (Str.ofString "range") f && decL κ.nf it κ.env.scope es)) rg = true) (g : G κ σ) (ev : wL (callF κ.n) it κ.r σ.S fun vs s => srcP rg vs s (P s))
    (k : ∀ w σ' src, Ext noF σ σ' → G κ σ' → SrcOK κ.c κ.A κ.Z σ' w src → P σ'.S src → Q w σ'.s) : W κ (eval i κ.env) Q σ.s := by
  cases rg with
  | true =>
    apply vCall_el e; intro f es kw p e
    obtain ⟨ek, e⟩ := and_el e
    obtain ⟨e1, e2⟩ := and_el e
    cases List.isEmpty_iff.mp (and_el ek).1
    apply glob_el e1; intro pb h1 h2
    exact g_Call_Name (name_builtin g g.ok.gr g.ok.br h1 h2 (g_callWith ((backTo_any _ _).trans (decL_star e2)) (hl.sl κ es e2 _ σ _ _ g ev fun ws vs σ1 x1 g1 R1 _ ev => ⟨keeps_machine (fun a q => nomatch q), call_range g1 R1 ev fun w σ' src x => k w σ' src (x1.trans x)⟩)))
  | false =>
    cases it with
    | nil => cases e
    | cons y it =>
      obtain ⟨e1, e2⟩ := and_el e
      cases List.isEmpty_iff.mp e1
      refine (hl.al y (.head _) κ i e2).1 σ _ _ g ev fun w v σ1 x1 g1 R1 ev => ?_
      cases v with
      | loc j =>
        obtain ⟨p, hp, rfl⟩ := R1
        obtain ⟨z, hz, ev⟩ := ev.h
        cases z with
        | dict l => exact k _ σ1 (.keys j l) x1 g1 ⟨hz, p, hp, rfl⟩ ev
        | _ => exact ev.elim
      | d d => cases d with
        | tup l => exact k _ σ1 (.items l) x1 g1 (open_tuple g1.bud.hd R1) ev
        | lst l => exact k _ σ1 (.items l) x1 g1 (open_list g1.bud.hd R1) ev
        | _ => exact ev.elim
end
end
section
noncomputable def TgtIs (pk : Bool) (t : PySem.Expr) (xs : List Str) : Prop := @Bool.rec (fun _ => Prop) (All2 IsName xs [t]) (∃ es k p, t = .Tuple es k p ∧ All2 IsName xs es) pk
section
variable {M : Model} {A : Around} {s : Shared} {env : Env}
theorem codeG_block {prog : Program} {w : World} {stmts : List PySem.Stmt} {R : Flow → Shared → Prop} (h : wpG (model prog w) A (execs stmts env) R s) : codeG (model prog w) A (.block stmts env) R s := by
  refine codeG_of_tree rfl ?_
  show wpG _ _ (do return Fin.done (← (execs stmts env).onRaise (fun x => do noteFrame x env; theTreesLotGoes x))) _ s
  exact wpG_then (wpG_onRaise h) fun f s' h' => wpG_pure h'
theorem g_For {target iter : PySem.Expr} {body : List PySem.Stmt} {pos : Pos} {Q : Flow → Shared → Prop} (hs : ∀ x, foldedSetIterable iter env x = pure x)
    (h : wpG M A (eval iter env) (fun x s₁ => wpAny M A (pyIter x) (fun it s₂ => codeG M A (.forLoop target it body [] env) Q s₂) noE s₁) s) : wpG M A (exec (.For target iter body [] pos) env) Q s := by
  rw [exec_For]
  exact wpG_sat (wpG_then h fun x s₁ h₁ => wpG_eq (hs x) (wpG_sat (wpG_hold (wpG_of h₁) fun _ _ h => wpG_runOwn h)))
theorem codeG_turn {prog : Program} {w : World} {R : Flow → Shared → Prop} {target : PySem.Expr} {it : Value} {body : List PySem.Stmt}
    (turn : wpAny (model prog w) A (pyNext it) (fun r s₁ => r.casesOn (R .next s₁) fun v => wpAny (model prog w) A (letOwnedTupleGo target it v) (fun _ s₁ => wpAny (model prog w) A (assign target env v) (fun _ s₂ => wpG (model prog w) A (execs body env)
      (fun f s₃ => Flow.casesOn f (codeG (model prog w) A (.forLoop target it body [] env) R s₃) (R .next s₃) (codeG (model prog w) A (.forLoop target it body [] env) R s₃) fun v => R (.ret v) s₃) s₂) noE s₁) noE s₁) noE s) : codeG (model prog w) A (.forLoop target it body [] env) R s := by
  refine codeG_of_tree rfl ?_
  show wpG _ A ((forTurn target it body [] env).onRaise (fun x => do noteFrame x env; theTreesLotGoes x)) _ s
  refine wpG_onRaise ?_
  simp only [forTurn]
  refine wpG_sat (wpG_then (wpG_onRaise (wpG_of turn)) fun r s₁ h₁ => ?_)
  cases r with
  | none => exact wpG_pure (.inl ⟨rfl, codeG_block (wpG_of (wpAny_execs_nil h₁))⟩)
  | some v =>
    refine wpG_any h₁ fun _ s₁ h₁ => wpG_any h₁ fun _ s₂ h₂ => wpG_then h₂ fun f s₃ h₃ => ?_
    cases f <;> first | exact wpG_pure (.inl ⟨rfl, h₃⟩) | exact wpG_pure h₃
end
section
variable {κ : Kt} {r : Slots} {o : OO} {oa : Option Addr} {σ σ' : Sg} {a I : Addr} {h' : Heap} {ts : List Nat} {xs : List Str} {d : D} {w : Value}
theorem tgt_go {pk : Bool} {t : PySem.Expr} {P : Slots → Prop} {Q : Shared → Prop} (X : Fy κ) (q1 : All2 (fun i x => varOk κ.env.scope κ.nf i x = true) ts xs) (q2 : TgtIs pk t xs) (bs : ∀ x ∈ xs, Bs κ x) (s : Sr κ r o oa σ) (hf : ts.all (freeO o) = true) (R : Rd (ZO κ.Z oa) σ d w) (ng : NoGo I σ.s.heap)
    (ev : bindP ts pk d r P) (k : ∀ r' σ', Sr κ r' o oa σ' → Same κ σ σ' → P r' → Q σ'.s) : wpAny (model κ.c.prog κ.c.w) κ.A (letOwnedTupleGo t (.ref I) w) (fun _ s => Wta κ (assign t κ.env w) (fun _ s => Q s) s) noE σ.s := by
  have free : ∀ i ∈ ts, ∀ p, o = some p → p.1 ≠ i := fun i hi => free_of (List.all_eq_true.mp hf i hi)
  cases pk with
  | false =>
    cases ts with
    | nil => exact ev.elim
    | cons i ts => cases ts with
      | cons => exact ev.elim
      | nil =>
        obtain ⟨x, _, rfl, v, q⟩ := q1
        cases q
        obtain ⟨_, _, q, ⟨p, rfl⟩, _⟩ := q2
        cases q
        exact wpAny_pure (wpAny_assign_Name (store_var X (bs x (.head _)) s (varOk_el v).1 (varOk_el v).2 (free i (.head _)) (v := .d d) R fun σ' s' _ e => k _ σ' s' e ev))
  | true =>
    obtain ⟨es, z, p, rfl, q2⟩ := q2
    cases d with
    | tup l =>
      obtain ⟨hl, ev⟩ := ev
      obtain ⟨a, ws, rfl, pt, _, Rs⟩ := R
      obtain ⟨ob, n, vs, e1, e2, e3, e4⟩ := ng
      have R := Rs.all
      refine wpAny_bind (wpAny_load e1 ?_)
      rw [e2, e3]
      refine bm_if_false (by rw [e4]; rfl) (wpAny_pure ?_)
      refine tup_assign q2 (R.length.trans (hl.symm.trans q1.length.symm)) (fun Q h => unpackItems_tuple X.bud.hd pt.isTup fun h' x => h h' (keep_of x)) fun h' kp => ?_
      have x := grow_ok (F := noF) s.inv kp σ.s.toks
      refine store_vars X (st_each bs q1 q2) (s.step X x.1 ((s.g X).ext x.1 x.2)) free (vs := l.map V.d) (x.1.rvs (All2.map V.d R)) (by rw [List.length_map]; exact hl) fun σ2 s2 e => k _ σ2 s2 (Same.trans (σ' := σ.to h' σ.s.toks) ⟨rfl, rfl, fun d o _ e => kp d o e⟩ e) ev
    | _ => exact ev.elim
theorem drop_ok {c : Cx} {Z Z' P F : Addr → Prop} {σ0 : Sg} (I : Inv c Z' σ) (x : Ext F σ0 σ) (sub : ∀ b, Z b → Z' b) (pz : ∀ b, P b → Z' b) (zp : ∀ b, Z b → ¬ P b) (f0 : ∀ b, P b → σ0.s.heap.get? b = none) (kb : ∀ b o, ¬ P b → σ.s.heap.get? b = some o → h'.get? b = some o) (t : Nat) :
    Ext F σ0 (σ.to h' t) ∧ Inv c Z (σ.to h' t) ∧ ∀ v w, Rv Z' σ v w → Rv Z (σ.to h' t) v w := by
  have kp : Kp (Xs σ.ft Z') σ.s.heap h' := fun b o e n => kb b o (fun q => n (.inr (pz b q))) e
  have bk : ∀ b o, σ.s.heap.get? b = some o → Xs σ.ft Z b → Xs σ.ft Z' b := fun b _ _ m => m.imp id (sub b)
  have same : ∀ {p : Addr × Addr} {i : Nat}, σ.ft[i]? = some p → h'.get? p.2 = σ.s.heap.get? p.2 := fun h1 => by
    obtain ⟨o, e⟩ := I.ms_in (ms_mem h1)
    exact (kb _ _ (fun q => I.zm _ (pz _ q) (ms_mem h1)) e).trans e.symm
  have old : ∀ b o, σ0.s.heap.get? b = some o → ¬ P b := fun b o e q => by rw [f0 b q] at e; cases e
  refine ⟨⟨by show ({ σ.s with heap := h', toks := t } : Shared) = _; rw [x.sh], fun b o e n => kb b o (old b o e) (x.kp b o e n), x.pre, x.new, fun i l p e1 e2 => ?_, fun b o e => ?_⟩,
    ⟨fun b o e => kb b o (fun q => by rw [I.zb b (pz b q)] at e; cases e) (I.base b o e), I.len, fun i p y h1 h2 => (I.cells i p y h1 h2).move kp bk (fun _ _ e => e) (same h1), I.nd, fun b z => I.zm b (sub b z), I.mb, fun b z => I.zb b (sub b z), fun b z => (I.zs b (sub b z)).imp fun o e => kb b o (zp b z) e, I.nsy⟩, fun v w R => RepV.move kp bk (fun _ _ e => e) v R⟩
  · obtain ⟨f1, f2⟩ := x.lock i l p e1 e2
    exact ⟨f1, (same (x.pre i p e2)).trans f2⟩
  · obtain ⟨o', e'⟩ := x.st b o e
    exact ⟨o', kb b o' (old b o e) e'⟩
theorem At.kb {env : Env} {y : Str} {u : Value} (nf : ∀ b, FA env b → b ≠ a) (kb : ∀ b o, b ≠ a → σ.s.heap.get? b = some o → h'.get? b = some o) (q : At σ.s.heap env y u) : At h' env y u := by
  rcases q with ⟨k, m, ⟨o, es, ep, ho, q⟩, e⟩ | ⟨k, b, hb, o, ho, q⟩
  · exact .inl ⟨k, m, ⟨o, es, ep, kb _ _ (nf _ (.inl rfl)) ho, q⟩, e⟩
  · exact .inr ⟨k, b, hb, o, kb _ _ (nf _ (.inr ⟨_, hb⟩)) ho, q⟩
theorem Sr.drop (X : Fx κ) (s : Sr (κ.aside a) r o oa σ) (nz : ¬ κ.Z a) (f0 : κ.σ0.s.heap.get? a = none) (kb : ∀ b o, b ≠ a → σ.s.heap.get? b = some o → h'.get? b = some o) (t : Nat) :
    Sr κ r o oa (σ.to h' t) ∧ ∀ v w, Rv (ZO (κ.aside a).Z oa) σ v w → Rv (ZO κ.Z oa) (σ.to h' t) v w := by
  have na : ∀ b, ZO κ.Z oa b → b ≠ a := fun b z q => z.elim (fun z => nz (q ▸ z)) fun e => by
    have O := s.own
    cases o with
    | none => rw [show oa = none from O] at e; cases e
    | some p =>
      obtain ⟨c, e', h1, _⟩ := O
      cases e'.symm.trans e
      exact h1 (.inr q)
  have nf : ∀ b, FA κ.env b → b ≠ a := fun b f q => nz (q ▸ X.za b f)
  obtain ⟨x, I, mv⟩ := drop_ok (P := (· = a)) s.inv s.ext (fun b (z : ZO κ.Z oa b) => z.imp .inl id) (fun b q => .inl (.inr q)) na (fun b q => q ▸ f0) kb t
  refine ⟨⟨x, I, fun j u y q1 q2 q3 => ?_, s.frm.same fun b o f e => kb b o (nf b f) e, ?_, s.ob⟩, mv⟩
  · obtain ⟨u', a1, a2⟩ := s.locs j u y q1 q2 q3
    exact ⟨u', a1.kb nf kb, mv _ _ a2⟩
  · have O := s.own
    cases o with
    | none => exact O
    | some p =>
      obtain ⟨b, e, h1, h2, x, h3, h4, h5⟩ := O
      exact ⟨b, e, fun z => h1 (.inl z), h2, x, h3, h4.kb nf kb, h5.move (fun o e' => kb b o (na b (.inr e)) e') fun d w R => mv (.d d) w R⟩
abbrev Kt.turn (κ : Kt) (oa : Option Addr) (σ : Sg) : Kt := { κ with F := fun a => FA κ.env a ∨ oa = some a, σ0 := σ }
theorem Fx.turn (X : Fx κ) : Fx (κ.turn oa σ) := ⟨⟨X.ok, X.call, X.bud, X.ev, X.nofree, X.inj⟩, fun a f => .inl (.inl f)⟩
theorem Sr.turn (s : Sr κ r o oa σ) : Sr (κ.turn oa σ) r o oa σ := ⟨Ext.refl .., s.inv, s.locs, s.frm, s.own, fun _ q => .inl (.inr q)⟩
theorem Sr.back {r2 : Slots} {o2 : OO} {oa2 : Option Addr} {σ2 : Sg} (X : Fx κ) (s : Sr κ r o oa σ) (s2 : Sr (κ.turn oa σ) r2 o2 oa2 σ2) : Sr κ r2 o2 oa2 σ2 ∧ Stay (ZO κ.Z oa) (ZO κ.Z oa2) σ σ2 := by
  have F : ∀ a, FA κ.env a ∨ oa = some a → κ.F a ∨ κ.σ0.s.heap.get? a = none := fun a f => f.elim (X.base a) (s.ob a)
  have e := s.ext
  have e2 := s2.ext
  have up : ∀ a, σ.s.heap.get? a = none → κ.σ0.s.heap.get? a = none := fun a f => by
    cases q : κ.σ0.s.heap.get? a with
    | none => rfl
    | some o => obtain ⟨o', eo⟩ := e.st a o q; rw [f] at eo; cases eo
  refine ⟨⟨⟨by rw [e2.sh]; show ({ σ.s with heap := σ2.s.heap, toks := σ2.s.toks } : Shared) = _; rw [e.sh], fun a o ea n => e2.kp a o (e.kp a o ea n) fun q => q.elim (fun m => n (.inl (e.new' ea m))) fun f => (F a f).elim (fun f => n (.inr f)) (fun f => by rw [f] at ea; cases ea), fun i q h => e2.pre i q (e.pre i q h), fun p m => ?_, fun i l p h1 h2 => ?_, fun a o ea => ?_⟩,
    s2.inv, s2.locs, s2.frm, s2.own, fun a q => (s2.ob a q).elim (F a) fun f => .inr (up a f)⟩, ⟨fun b o eb n => e2.kp b o eb fun m => n (m.imp id fun f => f.elim (fun f => .inl (X.za b f)) .inr), fun b o eb m => ?_, fun i l p h1 h2 => ⟨⟨(e2.lock i l p h1 h2).1, e2.pre i p h2⟩, (e2.lock i l p h1 h2).2⟩⟩⟩
  · exact (e2.new p m).elim (e.new p) fun f => .inr (up _ f)
  · obtain ⟨f1, f2⟩ := e.lock i l p h1 h2
    obtain ⟨g1, g2⟩ := e2.lock i l p f1 (e.pre i p h2)
    exact ⟨g1, g2.trans f2⟩
  · obtain ⟨o', eo⟩ := e.st a o ea
    exact e2.st a o' eo
  · rcases m with m | m | m
    · exact .inl (e2.new' eb m)
    · exact .inr (.inl m)
    · rcases s2.ob b m with (f | f) | f
      · exact .inr (.inl (X.za b f))
      · exact .inr (.inr f)
      · rw [show σ.s.heap.get? b = none from f] at eb; cases eb
end
end
section
theorem noSet_el {i : PySem.Expr} {env : Env} (h : noSet i = true) (x : Value) : foldedSetIterable i env x = pure x := by cases i <;> first | rfl | cases h
section
variable {κ : Kt} {r : Slots} {o : OO} {oa : Option Addr} {σ σ' : Sg} {a I : Addr} {h' : Heap} {ts : List Nat} {xs : List Str} {d : D} {w : Value} {b : List S}
theorem Sr.poked (s : Sr κ r o oa σ) (za : κ.Z a) (na : ¬ FA κ.env a) (f0 : κ.σ0.s.heap.get? a = none) (kb : ∀ b o, b ≠ a → σ.s.heap.get? b = some o → h'.get? b = some o) (hn : ∃ o, h'.get? a = some o) (t : Nat) : Sr κ r o oa (σ.to h' t) := by
  obtain ⟨x1, I1, kk⟩ := s.poke t (.inl za) (.inr f0) kb hn
  have mv := Mv.kp (t := t) kk
  have nf : ∀ b, FA κ.env b → b ≠ a := fun b f q => na (q ▸ f)
  refine ⟨x1, I1, fun j u y q1 q2 q3 => ?_, s.frm.same fun b o f e => kb b o (nf b f) e, s.own.move (fun p y w _ _ a => a.kb nf kb) (fun b o _ nz' e => kb b o (fun q => nz' (q ▸ za)) e) (fun d w R => mv (.d d) w R) fun _ _ h => h, s.ob⟩
  obtain ⟨u', a1, a2⟩ := s.locs j u y q1 q2 q3
  exact ⟨u', a1.kb nf kb, mv _ _ a2⟩
theorem Sr.noI (s : Sr (κ.aside a) r o oa σ) : oa ≠ some a := fun e => by
  have O := s.own
  cases o with
  | none => rw [show oa = none from O] at e; cases e
  | some p =>
    obtain ⟨c, e', h1, _⟩ := O
    cases e'.symm.trans e
    exact h1 (.inr rfl)
theorem for_turns {J : (Addr → Prop) → Sg → List D → Prop} {pk : Bool} {t : PySem.Expr} {pb : List PySem.Stmt} {Q : K} {R : PV} {QF : Flow → Shared → Prop} (X : Fx κ) (it : Iter κ.c κ.A I J) (q1 : All2 (fun i x => varOk κ.env.scope κ.nf i x = true) ts xs) (q2 : TgtIs pk t xs)
    (hb : SB b) (e : decB κ.nf κ.env.scope b pb = true) (nz : ¬ κ.Z I) (f0 : κ.σ0.s.heap.get? I = none) (k : Kn κ Q R QF) {ds : List D} (s : Sr (κ.aside I) r o oa σ) (j : J (ZO (κ.aside I).Z oa) σ ds) (ev : forL (forF (wB (callF κ.n) b) ts pk R) ds r o σ.S Q) :
    codeG (model κ.c.prog κ.c.w) κ.A (.forLoop t (.ref I) pb [] κ.env) QF σ.s := by
  induction ds generalizing r o oa σ with
  | nil => exact codeG_turn (it.dn j fun h' t kb => k.nx _ _ _ _ (s.drop X nz f0 kb t).1 ev)
  | cons d ds ih =>
    refine codeG_turn (it.nx s.inv (.inl (.inr rfl)) j fun v h' t kb ng Rd j' => ?_)
    have hn : ∃ o, h'.get? I = some o := let ⟨o, _, _, e, _⟩ := ng; ⟨o, e⟩
    have sa := s.poked (.inr rfl) (fun f => nz (X.za I f)) f0 kb hn t
    obtain ⟨hf, ev⟩ := ifT_el ev
    have Xt := (X.aside (a := I)).turn (oa := oa) (σ := σ.to h' t)
    refine tgt_go (κ := (κ.aside I).turn oa (σ.to h' t)) Xt.toFy q1 q2 (fun x _ => Xt.bs x) sa.turn hf Rd ng ev fun r' σ1 s1 same ev => ?_
    have ev : wB (callF κ.n) b r' o σ.S (fun r o s => forL (forF (wB (callF κ.n) b) ts pk R) ds r o s Q) R := ev
    rw [← show σ1.S = σ.S from same.S] at ev
    refine hb ((κ.aside I).turn oa (σ.to h' t)) pb Xt e r' o oa σ1 _ R _ s1 ev ⟨fun r2 o2 oa2 σ2 s2 ev => ?_, fun w v r2 o2 oa2 σ2 s2 Rw ev => ?_⟩
    · obtain ⟨s3, st⟩ := Sr.back X.aside sa s2
      obtain ⟨o, ho⟩ := hn
      exact ih s3 (it.stay j' st fun o' e' => s2.ext.kp I o' e' fun m => m.elim (sa.inv.zm I (.inl (.inr rfl))) fun f => f.elim (fun f => nz (X.za I f)) sa.noI) ev
    · obtain ⟨s3, _⟩ := Sr.back X.aside sa s2
      obtain ⟨s4, mv⟩ := s3.drop X nz f0 (h' := σ2.s.heap) (fun _ _ _ e => e) σ2.s.toks
      exact k.rt _ _ _ _ _ _ s4 (mv _ _ Rw) ev
theorem tgt_of {pk : Bool} {t : PySem.Expr} {nf : Nat → Option Str} {sc : Scope} (e : @Bool.rec (fun _ => Bool) (decVs nf sc ts [t]) (vTup t fun es => decide (ts.length ≤ 10) && decVs nf sc ts es) pk = true) : ∃ xs, All2 (fun i x => varOk sc nf i x = true) ts xs ∧ TgtIs pk t xs := by
  cases pk with
  | false => exact decVs_el e
  | true =>
    apply vTup_el (C := fun t => ∃ xs, All2 (fun i x => varOk sc nf i x = true) ts xs ∧ TgtIs true t xs) e; intro es k p e
    obtain ⟨xs, a, b⟩ := decVs_el (and_el e).2
    exact ⟨xs, a, es, k, p, rfl, b⟩
theorem inv_relabel {c : Cx} {Z : Addr → Prop} {j : Nat} {x y : Cell} (I : Inv c Z σ) (hj : σ.S[j]? = some x) (q : ∀ X ft h p, CellAt c X ft h p x → CellAt c X ft h p y) : Inv c Z ⟨σ.ft, σ.S.set j y, σ.s⟩ := by
  have lj := (List.getElem?_eq_some_iff.mp hj).1
  refine ⟨I.base, (List.length_set ..).symm ▸ I.len, fun i p z h1 h2 => ?_, I.nd, I.zm, I.mb, I.zb, I.zs, I.nsy⟩
  by_cases e : j = i
  · cases e
    cases (List.getElem?_set_self lj).symm.trans h2
    exact q _ _ _ _ (I.cells j p x h1 hj)
  · exact I.cells i p z h1 ((List.getElem?_set_ne e).symm.trans h2)
theorem Ext.relabel {F : Addr → Prop} {σ0 : Sg} {j : Nat} {y : Cell} (x : Ext F σ0 σ) (hno : ∀ l p, σ0.S[j]? = some (.lock l) → σ0.ft[j]? = some p → False) : Ext F σ0 ⟨σ.ft, σ.S.set j y, σ.s⟩ :=
  ⟨x.sh, x.kp, x.pre, x.new, fun i l p e1 e2 => ⟨(List.getElem?_set_ne fun (q : j = i) => hno l p (q ▸ e1) (q ▸ e2)).trans (x.lock i l p e1 e2).1, (x.lock i l p e1 e2).2⟩, x.st⟩
theorem Sr.relabel {j : Nat} {x y : Cell} (s : Sr κ r o oa σ) (hj : σ.S[j]? = some x) (q : ∀ X ft h p, CellAt κ.c X ft h p x → CellAt κ.c X ft h p y) (hno : ∀ l p, κ.σ0.S[j]? = some (.lock l) → κ.σ0.ft[j]? = some p → False) : Sr κ r o oa ⟨σ.ft, σ.S.set j y, σ.s⟩ :=
  ⟨s.ext.relabel hno, inv_relabel s.inv hj q, s.locs, s.frm, s.own, s.ob⟩
theorem ss_for {pk rg : Bool} {it : List E} (hi : SndL it) (hb : SB b) : SS (.for ts pk rg it b) := fun κ p X e r o oa σ Q R QF s ev k => by
  apply vFor_el e; intro t i y z pos e
  obtain ⟨e1, e⟩ := and_el e
  obtain ⟨e1, e2⟩ := and_el e1
  obtain ⟨e1, e3⟩ := and_el e1
  obtain ⟨e2, _⟩ := and_el e2
  obtain ⟨e4, e5⟩ := and_el e
  cases List.isEmpty_iff.mp e1
  obtain ⟨xs, q1, q2⟩ := tgt_of e2
  refine g_For (noSet_el e3) (src_el (κ := κ.e r oa) (P := fun s => forP (forF (wB (callF κ.n) b) ts pk R) r o s Q) hi e4 (s.g X.toFy) ev fun w σ1 src x1 g1 so ev => ?_)
  have s1 := s.step X.toFy x1 g1
  have fr : σ1.s.heap.get? σ1.s.heap.objs.size = none := Heap.get?_none_of_le (Nat.le_refl _)
  have back : ∀ a o, σ1.s.heap.get? a = some o → ZO (κ.aside σ1.s.heap.objs.size).Z oa a → ZO κ.Z oa a := fun a o e z => z.elim (fun z => z.elim .inl fun q => by rw [q, fr] at e; cases e) .inr
  cases src with
  | items ds =>
    obtain ⟨ob, J, fo, it, hp, hJ⟩ := so
    refine hp _ ?_
    obtain ⟨s2, nz, f0, _, _⟩ := s1.aside X (push_kk ob) fr ⟨_, Heap.get?_push_size _ fo⟩ σ1.s.toks
    exact for_turns X it q1 q2 hb e5 nz f0 k s2 (hJ _ back) ev.h
  | keys j l =>
    obtain ⟨hj, p, hp, rfl⟩ := so
    have hno : ∀ l p, κ.σ0.S[j]? = some (.lock l) → κ.σ0.ft[j]? = some p → False := fun l' p' q hp' => nomatch hj.symm.trans (s1.ext.lock j l' p' q hp').1
    have sk := s1.relabel (y := .lock l) hj (fun _ _ _ _ h => h) hno
    obtain ⟨ob, J, fo, it, hq, hJ⟩ := open_dict X.bud.hd sk.inv (List.getElem?_set_self (List.getElem?_eq_some_iff.mp hj).1) hp
    refine hq _ ?_
    have Xt := X.turn (oa := oa) (σ := ⟨σ1.ft, σ1.S.set j (.lock l), σ1.s⟩)
    obtain ⟨s2, nz, f0, _, _⟩ := sk.turn.aside Xt (push_kk ob) fr ⟨_, Heap.get?_push_size _ fo⟩ σ1.s.toks
    refine for_turns Xt it q1 q2 hb e5 nz f0 ⟨fun r2 o2 oa2 σ2 s3 ev => ?_, fun w v r2 o2 oa2 σ2 s3 Rw ev => ?_⟩ s2 (hJ _ back) ev.h
    · have hl := (s3.ext.lock j l p (List.getElem?_set_self (List.getElem?_eq_some_iff.mp hj).1) hp).1
      exact k.nx _ _ _ ⟨σ2.ft, σ2.S.set j (.dict l), σ2.s⟩ ((Sr.back X sk s3).1.relabel (y := .dict l) hl (fun _ _ _ _ h => h) hno) ev
    · exact k.rt _ _ _ _ _ _ (Sr.back X sk s3).1 Rw ev
end
end
section
theorem codeG_wturn {prog : Program} {w : World} {A : Around} {env : Env} {s : Shared} {R : Flow → Shared → Prop} {test : PySem.Expr} {body : List PySem.Stmt}
    (turn : wpG (model prog w) A (isTrue test env (eval test env)) (fun b s₂ => @Bool.rec (fun _ => Prop) (R .next s₂) (wpG (model prog w) A (execs body env) (fun f s₃ => Flow.casesOn f (codeG (model prog w) A (.whileLoop test body [] env) R s₃) (R .next s₃) (codeG (model prog w) A (.whileLoop test body [] env) R s₃) fun v => R (.ret v) s₃) s₂) b) s) :
    codeG (model prog w) A (.whileLoop test body [] env) R s := by
  refine codeG_of_tree rfl ?_
  show wpG _ A ((whileTurn test body [] env).onRaise (fun x => do noteFrame x env; theTreesLotGoes x)) _ s
  refine wpG_onRaise (wpG_then turn fun b s₂ h₂ => ?_)
  cases b with
  | false => exact wpG_any (wpAny_execs_nil h₂) fun _ _ h => wpG_pure (a := Fin.done _) h
  | true =>
    refine wpG_then h₂ fun f s₃ h₃ => ?_
    cases f <;> first | exact wpG_pure (.inl ⟨rfl, h₃⟩) | exact wpG_pure h₃
theorem ss_wh {c : E} {b : List S} (hc : Snd c) (hb : SB b) : SS (.wh c b) := fun κ p X e r o oa σ Q R QF s ev k => by
  apply vWh_el e; intro t y z pos e
  obtain ⟨e1, e⟩ := and_el e
  obtain ⟨e2, e3⟩ := and_el e
  cases List.isEmpty_iff.mp e1
  have main : ∀ n r o oa σ, Sr κ r o oa σ → whL (whF (wE (callF κ.n) c) (wB (callF κ.n) b) R) n r o σ.S Q → codeG (model κ.c.prog κ.c.w) κ.A (.whileLoop t y [] κ.env) QF σ.s := fun n => by
    induction n with
    | zero => exact fun _ _ _ _ _ ev => ev.elim
    | succ n ih =>
      intro r o oa σ s ev
      refine codeG_wturn ((hc (κ.e r oa) t e2).2 σ (fun t s => Br t (wB (callF κ.n) b r o s (fun r o s => whL (whF (wE (callF κ.n) c) (wB (callF κ.n) b) R) n r o s Q) R) (Q r o s)) _ (s.g X.toFy) ev fun t σ1 x1 g1 ev => ?_)
      have s1 := s.step X.toFy x1 g1
      cases t with
      | false => exact k.nx _ _ _ _ s1 ev
      | true => exact hb κ y X e3 r o oa σ1 _ R _ s1 ev ⟨fun r o oa σ s ev => ih r o oa σ s ev, fun w v r o oa σ s Rv ev => k.rt _ _ _ _ _ _ s Rv ev⟩
  show wpG _ _ (exec (.While t y [] pos) κ.env) QF σ.s
  rw [arm_exec_While]
  exact wpG_sat (wpG_runOwn (main lim r o oa σ s ev.h))
end
section
section
variable {sc : Scope} {env : Env} {x : Str} {a C : Addr}
theorem lookup_relabel : (relabel sc env).names.lookup x = (sc.names.lookup x).map fun k => if (k == .free && env.scope.kind == .function && env.kindOf x == some .cell) = true then .cell else k := by
  show List.lookup x (sc.names.map _) = _
  induction sc.names with
  | nil => rfl
  | cons p r ih =>
    obtain ⟨n, k⟩ := p
    rw [List.map_cons]
    by_cases hx : x = n
    · subst hx
      show List.lookup x ((if (k == .free && env.scope.kind == .function && env.kindOf x == some .cell) = true then (x, .cell) else (x, k)) :: _) = _
      split <;> rename_i h
      · rw [List.lookup_cons_self, List.lookup_cons_self, Option.map_some, if_pos h]
      · rw [List.lookup_cons_self, List.lookup_cons_self, Option.map_some, if_neg h]
    · have e : (x == n) = false := beq_eq_false_iff_ne.mpr hx
      show List.lookup x ((if (k == .free && env.scope.kind == .function && env.kindOf n == some .cell) = true then (n, .cell) else (n, k)) :: _) = _
      split <;> (rw [List.lookup_cons, List.lookup_cons]; dsimp only; rw [e]; exact ih)
noncomputable def freeCells (env : Env) (names : List (Str × NameKind)) (cs : List (Str × Addr)) : List (Str × Addr) :=
  names.foldl (fun cs y => bif y.2 == .free then (env.cells.lookup y.1).casesOn cs fun a => (y.1, a) :: cs else cs) cs
theorem closureFor_cells (h : ∀ y ∈ sc.names, y.2 = .free → ∃ a, env.cells.lookup y.1 = some a) : closureFor sc env = pure (freeCells env sc.names []) := by
  unfold closureFor freeCells
  generalize ([] : List (Str × Addr)) = cs
  revert h
  generalize sc.names = names
  intro h
  induction names generalizing cs with
  | nil => rfl
  | cons y r ih =>
    obtain ⟨n, k⟩ := y
    have ih := fun cs => ih cs fun y hy => h y (.tail _ hy)
    by_cases hk : k = .free
    · subst hk
      obtain ⟨a, ha⟩ := h (n, .free) (.head _) rfl
      simp only [List.forIn_cons, List.foldl_cons, cellOf, ha, beq_self_eq_true, if_true, cond_true] at ih ⊢
      exact ih _
    · have hk' : (k == NameKind.free) = false := beq_eq_false_iff_ne.mpr hk
      simp only [List.forIn_cons, List.foldl_cons, hk', cond_false] at ih ⊢
      exact ih _
theorem freeCells_ok {names : List (Str × NameKind)} {cs : List (Str × Addr)} (h : ∀ x a, cs.lookup x = some a → env.cells.lookup x = some a) : (∀ x a, (freeCells env names cs).lookup x = some a → env.cells.lookup x = some a) ∧
    ∀ x a, ((x, NameKind.free) ∈ names ∧ env.cells.lookup x = some a) ∨ cs.lookup x = some a → (freeCells env names cs).lookup x = some a := by
  induction names generalizing cs with
  | nil => exact ⟨h, fun x a q => q.elim (fun q => nomatch q.1) id⟩
  | cons y r ih =>
    obtain ⟨n, k⟩ := y
    show (∀ x a, (freeCells env r (bif k == .free then _ else cs)).lookup x = some a → _) ∧ ∀ x a, _ → (freeCells env r (bif k == .free then _ else cs)).lookup x = some a
    cases q : k == NameKind.free with
    | false =>
      obtain ⟨h1, h2⟩ := ih h
      refine ⟨h1, fun x a m => h2 x a (m.imp (fun m => ⟨(List.mem_cons.mp m.1).resolve_left fun e => ?_, m.2⟩) id)⟩
      cases e; cases q
    | true =>
      show (∀ x a, (freeCells env r ((env.cells.lookup n).casesOn cs fun a => (n, a) :: cs)).lookup x = some a → _) ∧ ∀ x a, _ → (freeCells env r ((env.cells.lookup n).casesOn cs fun a => (n, a) :: cs)).lookup x = some a
      cases e : env.cells.lookup n with
      | none =>
        obtain ⟨h1, h2⟩ := ih h
        refine ⟨h1, fun x a m => h2 x a (m.imp (fun m => ⟨(List.mem_cons.mp m.1).resolve_left fun e' => ?_, m.2⟩) id)⟩
        cases e'; rw [e] at m; cases m.2
      | some b =>
        have hc : ∀ x a, List.lookup x ((n, b) :: cs) = some a → env.cells.lookup x = some a := fun x a h' => by
          by_cases hx : x = n
          · rw [hx, List.lookup_cons_self] at h'; rw [hx, e]; exact h'
          · rw [List.lookup_cons, beq_eq_false_iff_ne.mpr hx] at h'; exact h x a h'
        obtain ⟨h1, h2⟩ := ih (cs := (n, b) :: cs) hc
        refine ⟨h1, fun x a m => h2 x a ?_⟩
        by_cases hx : x = n
        · subst hx
          refine .inr ?_
          rw [List.lookup_cons_self]
          exact m.elim (fun m => e.symm.trans m.2) fun m => (e.symm.trans (h x a m))
        · rw [List.lookup_cons, beq_eq_false_iff_ne.mpr hx]
          exact m.imp (fun m => ⟨(List.mem_cons.mp m.1).resolve_left fun q => hx (congrArg Prod.fst q), m.2⟩) id
theorem mem_of_lookup {α β : Type} [BEq α] [LawfulBEq α] {a : α} {b : β} {l : List (α × β)} (h : l.lookup a = some b) : (a, b) ∈ l := by
  induction l with
  | nil => cases h
  | cons p l ih =>
    obtain ⟨x, y⟩ := p
    rw [List.lookup_cons] at h
    cases e : a == x with
    | true => rw [e] at h; cases h; rw [beq_iff_eq.mp e]; exact .head _
    | false => rw [e] at h; exact .tail _ (ih h)
theorem nodupTx_nodup {l : List Str} (h : nodupTx l = true) : l.Nodup := by
  induction l with
  | nil => exact List.nodup_nil
  | cons a l ih =>
    obtain ⟨h1, h2⟩ := and_el h
    refine List.nodup_cons.mpr ⟨fun m => ?_, ih h2⟩
    rw [List.contains_iff_mem.mpr m] at h1; cases h1
theorem zip_all {ts : List Nat} {xs : List Str} (nd : ts.Nodup) (hl : xs.length = ts.length) : All2 (fun i x => i ∈ ts ∧ (ts.zip xs).lookup i = some x) ts xs := by
  induction ts generalizing xs with
  | nil => cases xs with
    | nil => exact rfl
    | cons => cases hl
  | cons t ts ih => cases xs with
    | nil => cases hl
    | cons x xs =>
      have nd := List.nodup_cons.mp nd
      refine ⟨x, xs, rfl, ⟨.head _, by rw [List.zip_cons_cons, List.lookup_cons_self]⟩, (ih nd.2 (Nat.succ.inj hl)).imp fun i y h => ⟨.tail _ h.1, ?_⟩⟩
      rw [List.zip_cons_cons, List.lookup_cons, beq_eq_false_iff_ne.mpr fun (q : i = t) => nd.1 (q ▸ h.1)]
      exact h.2
theorem zip_inj {ts : List Nat} {xs : List Str} (nd : xs.Nodup) {i j : Nat} {x : Str} (h1 : (ts.zip xs).lookup i = some x) (h2 : (ts.zip xs).lookup j = some x) : i = j := by
  induction ts generalizing xs with
  | nil => cases h1
  | cons t ts ih => cases xs with
    | nil => cases h1
    | cons y xs =>
      have nd := List.nodup_cons.mp nd
      rw [List.zip_cons_cons, List.lookup_cons] at h1 h2
      have out : ∀ {k : Nat}, List.lookup k (ts.zip xs) = some y → False := fun e => nd.1 (List.of_mem_zip (mem_of_lookup e)).2
      cases e1 : i == t with
      | true =>
        rw [e1] at h1; cases h1
        cases e2 : j == t with
        | true => exact (beq_iff_eq.mp e1).trans (beq_iff_eq.mp e2).symm
        | false => rw [e2] at h2; exact (out h2).elim
      | false =>
        rw [e1] at h1
        cases e2 : j == t with
        | true => rw [e2] at h2; cases h2; exact (out h1).elim
        | false => rw [e2] at h2; exact ih nd.2 h1 h2
end
section
variable {M : Model} {A : Around} {s : Shared} {env : Env} {pos : Pos}
theorem wpG_standIf {α : Type} {c : Prop} [Decidable c] {k : PUnit → Sem α} {Q : α → Shared → Prop} (h : wpG M A (k ()) Q s) : wpG M A (if c then (standAt pos >>= k) else k ()) Q s := by
  split
  · exact wpG_sat h
  · exact h
noncomputable def letGo (M : Model) (A : Around) (use : Option (Value → Sem Unit)) (Q : Value → Shared → Prop) (acc : Value) (C : Addr) (s' : Shared) : Prop := use.casesOn (∃ m, s'.heap.Ns C m ∧ ∀ h', Heap.SameBut C s'.heap h' → Q acc { s' with heap := h' })
  fun u => wpAny M A (u acc) (fun _ s'' => ∃ m, s''.heap.Ns C m ∧ ∀ h', Heap.SameBut C s''.heap h' → Q .none { s'' with heap := h' }) noE s'
theorem g_comp {e : PySem.Expr} {scope : Scope} {newAcc first : Sem Value} {g : Comprehension} {gs : List Comprehension} {cl : List (Str × Addr)} {use : Option (Value → Sem Unit)} {Q : Value → Shared → Prop}
    (hcl : clausesOf e = g :: gs) (hs : ∀ x, foldedSetIterable g.iter env x = pure x) (hclos : closureFor scope env = pure cl)
    (hkind : scope.kind = .function) (hnames : ∀ x ∈ scope.names, x.2 = .local → scope.names.lookup x.1 = some .local)
    (h : wpG M A first (fun x s₁ => wpAny M A (pyIter x) (fun it s₂ => wpAny M A newAcc (fun acc s₃ =>
      wpAny M A (newFunctionEnv scope env.globals cl [] env.qual none .none (some env)) (fun cenv s₄ =>
        codeG M A (.compStart e 0 it acc { cenv with scope := relabel scope env }) (fun _ s' => letGo M A use Q acc cenv.locals s') s₄) noE s₃) noE s₂) noE s₁) s) :
    wpG M A (comprehension e scope env pos newAcc false first use) Q s := by
  unfold comprehension
  rw [hclos, hcl]
  refine wpG_then h fun x s₁ h₁ => wpG_sat (wpG_eq (hs x) (wpG_hold (wpG_of h₁) fun it s₂ h₂ => wpG_standIf (wpG_any h₂ fun acc s₃ h₃ => wpG_bind (wpG_pure (wpG_any h₃ fun cenv s₄ h₄ => ?_)))))
  dsimp only
  have hv : ∀ x ∈ (scope.names.filter fun x => (x.2 == .local || x.2 == .cell) && x.1 != (".0" : Str)), x.2 = .local →
      Env.kindOf { cenv with scope := relabel scope env } x.1 = some .local := fun x hx hl => lookup_relabel_local (hnames x (List.mem_filter.mp hx).1 hl)
  refine wpG_holding (wpG_bind (wpG_attempt (wpG_holding (wpG_run (fun Γ p hc hΓ g => ?_)))))
  refine wpCode_mono (fun r s' hr => ?_) (h₄ Γ p hc hΓ g)
  obtain ⟨f, rfl, hr⟩ := hr
  refine ⟨f, rfl, ?_⟩
  cases use with
  | none =>
    obtain ⟨m, hn, hr⟩ := hr
    exact wpG_bind (wpG_holding (wpG_of (wpAny_comp_letGo (cenv := { cenv with scope := relabel scope env }) hkind _ s' m (fun x hx => hv x (List.mem_reverse.mp hx)) hn fun h' m' _ hs' => wpG_pure (hr h' hs'))))
  | some u =>
    refine wpG_bind (wpG_of (wpAny_rule (wpG_bind (wpG_holding (wpG_of (wpAny_mono hr (fun _ s2 h2 => ?_) fun _ _ h => h))))))
    obtain ⟨m, hn, hr⟩ := h2
    exact wpG_bind (wpG_of (wpAny_comp_letGo (cenv := { cenv with scope := relabel scope env }) hkind _ s2 m (fun x hx => hv x (List.mem_reverse.mp ((List.mem_append.mp hx).elim List.mem_of_mem_drop List.mem_of_mem_take))) hn fun h' m' _ hs' => wpG_pure (hr h' hs')))
end
section
variable {prog : Program} {w : World} {A : Around} {s : Shared} {elt tgt iter : PySem.Expr} {ifs : List PySem.Expr} {scope : Scope} {pos : Pos} {it acc : Value} {env : Env} {R : Flow → Shared → Prop}
noncomputable abbrev tests (ifs : List PySem.Expr) (env : Env) : Sem Bool := forIn ifs true fun c r => if r = true then do let ok ← isTrue c env (eval c env); pure (ForInStep.yield ok) else pure (ForInStep.yield r)
theorem codeG_cturn (turn : wpAny (model prog w) A (pyNext it) (fun r s₁ => r.casesOn (R .next s₁) fun v => wpAny (model prog w) A (letOwnedTupleGo tgt it v) (fun _ s₁ => wpAny (model prog w) A (assign tgt env v) (fun _ s₂ => wpG (model prog w) A (tests ifs env) (fun ok s₃ => Br ok
      (wpG (model prog w) A (eval elt env) (fun x s₄ => wpAny (model prog w) A (call (.builtin "list.append") [acc, x]) (fun _ s₅ => codeG (model prog w) A (.compLoop (.ListComp elt [⟨tgt, iter, ifs, 0⟩] scope pos) 0 it acc env) R s₅) noE s₄) s₃)
      (codeG (model prog w) A (.compLoop (.ListComp elt [⟨tgt, iter, ifs, 0⟩] scope pos) 0 it acc env) R s₃)) s₂) noE s₁) noE s₁) noE s) : codeG (model prog w) A (.compLoop (.ListComp elt [⟨tgt, iter, ifs, 0⟩] scope pos) 0 it acc env) R s := by
  refine codeG_of_tree rfl ?_
  show wpG _ A ((compTurn (.ListComp elt [⟨tgt, iter, ifs, 0⟩] scope pos) 0 it acc env).onRaise (fun x => do noteFrame x env; theTreesLotGoes x)) _ s
  refine wpG_onRaise ?_
  rw [compTurn_list]
  refine wpG_sat (wpG_any turn fun r s₁ h₁ => ?_)
  cases r with
  | none => exact wpG_pure h₁
  | some v =>
    refine wpG_any h₁ fun _ s₁ h₁ => wpG_any h₁ fun _ s₂ h₂ => wpG_then h₂ fun ok s₃ h₃ => ?_
    cases ok with
    | false => exact wpG_pure (.inl ⟨rfl, h₃⟩)
    | true => exact wpG_bind (wpG_then h₃ fun x s₄ h₄ => wpG_any h₄ fun _ s₅ h₅ => wpG_pure (wpG_pure (.inl ⟨rfl, h₅⟩)))
theorem codeG_compStart (h0 : codeG (model prog w) A (.compLoop (.ListComp elt [⟨tgt, iter, ifs, 0⟩] scope pos) 0 it acc env) R s)
    (h : wpAny (model prog w) A (pyIter it) (fun it' s' => codeG (model prog w) A (.compLoop (.ListComp elt [⟨tgt, iter, ifs, 0⟩] scope pos) 0 it' acc env) R s') noE s) : codeG (model prog w) A (.compStart (.ListComp elt [⟨tgt, iter, ifs, 0⟩] scope pos) 0 it acc env) R s := by
  refine codeG_of_tree rfl ?_
  show wpG _ _ ((compStart (.ListComp elt [⟨tgt, iter, ifs, 0⟩] scope pos) 0 it acc env).onRaise (fun x => do noteFrame x env; standAt theWindowsPlace)) _ s
  refine wpG_onRaise ?_
  unfold compStart
  show wpG _ _ (ask >>= _) _ s
  refine wpG_bind (wpG_of (wpAny_askSetting ?_))
  split
  · first
      | exact wpG_bind (wpG_pure (wpG_pure (.inl (And.intro rfl h0))))
      | exact wpG_pure (.inl (And.intro rfl h0))
  · refine wpG_bind (wpG_of (wpAny_rule ?_))
    first
      | exact wpG_sat (wpG_any h fun it' s' h' => wpG_pure (.inl (And.intro rfl h')))
      | (show wpG _ _ (standAt iter.pos >>= _) _ s; exact wpG_sat (wpG_any h fun it' s' h' => wpG_pure (.inl (And.intro rfl h'))))
      | exact wpG_bind (wpG_sat (wpG_any h fun it' s' h' => wpG_pure (.inl (And.intro rfl h'))))
theorem tests_nil {M : Model} {Q : Bool → Shared → Prop} (h : Q true s) : wpG M A (tests [] env) Q s := wpG_pure h
theorem tests_one {M : Model} {c : PySem.Expr} {Q : Bool → Shared → Prop} (h : wpG M A (isTrue c env (eval c env)) Q s) : wpG M A (tests [c] env) Q s := by
  unfold tests
  rw [List.forIn_cons]
  exact wpG_bind (wpG_then h fun b s' hb => wpG_pure (wpG_pure hb))
end
end
section
theorem slot_other {r : Slots} {i j : Nat} {v : V} (n : j ≠ i) : slotOf (slotSet r i v) j = slotOf r j := by
  induction r generalizing i j with
  | nil => rfl
  | cons a r ih => cases i with
    | zero => cases j with
      | zero => exact absurd rfl n
      | succ j => rfl
    | succ i => cases j with
      | zero => rfl
      | succ j => exact ih fun q => n (congrArg _ q)
theorem setVs_other {is : List Nat} {vs : List V} {r : Slots} {j : Nat} (n : j ∉ is) : slotOf (setVs is vs r) j = slotOf r j := by
  induction is generalizing vs r with
  | nil => rfl
  | cons i is ih => cases vs with
    | nil => rfl
    | cons v vs => exact (ih fun m => n (.tail _ m)).trans (slot_other fun (q : j = i) => n (q ▸ .head _))
theorem unset_el {r : Slots} {ts : List Nat} (h : unset r ts = true) {i : Nat} (m : i ∈ ts) : slotOf r i = none := by
  induction ts with
  | nil => cases m
  | cons t ts ih =>
    obtain ⟨h1, h2⟩ := and_el h
    rcases List.mem_cons.mp m with rfl | m
    · exact Option.isNone_iff_eq_none.mp h1
    · exact ih h2 m
def Sub (r r' : Slots) : Prop := ∀ i v, slotOf r i = some v → slotOf r' i = some v
theorem bind_sub {ts : List Nat} {pk : Bool} {d : D} {r : Slots} {P : Slots → Prop} (u : unset r ts = true) (h : bindP ts pk d r P) : bindP ts pk d r fun r' => Sub r r' ∧ P r' := by
  have out : ∀ {i : Nat} {v : V}, slotOf r i = some v → i ∉ ts := fun e m => by rw [unset_el u m] at e; cases e
  cases pk with
  | false => cases ts with
    | nil => exact h
    | cons i ts => cases ts with
      | nil => exact ⟨fun j v e => (slot_other fun (q : j = i) => out e (q ▸ .head _)).trans e, h⟩
      | cons => exact h
  | true => cases d with
    | tup l => exact ⟨h.1, fun j v e => (setVs_other (out e)).trans e, h.2⟩
    | _ => exact h
section
variable {κ : Kt} {r r' : Slots} {o : OO} {oa : Option Addr} {σ σ' : Sg} {I K : Addr} {ts : List Nat} {xs : List Str}
theorem Sr.sub (s : Sr κ r' none none σ) (h : Sub r r') : Sr κ r none none σ := ⟨s.ext, s.inv, fun i v x h1 => s.locs i v x (h i v h1), s.frm, rfl, s.ob⟩
theorem Same.stay (X : Fy κ) (s : Sr κ r o oa σ) (e : Same κ σ σ') : Stay (ZO κ.Z oa) (ZO κ.Z oa) σ σ' :=
  ⟨fun b o eb n => e.kp b o (fun f => n (.inr (.inl (X.za b f)))) eb, fun _ _ _ m => by rw [e.ft] at m; exact m, fun i l p e1 e2 => by
    obtain ⟨ob, eo⟩ := s.inv.ms_in (ms_mem e2)
    exact ⟨⟨by rw [e.S]; exact e1, by rw [e.ft]; exact e2⟩, (e.kp _ _ (fun f => s.inv.zm _ (.inl (X.za _ f)) (ms_mem e2)) eo).trans eo.symm⟩⟩
theorem comp_turns {J : (Addr → Prop) → Sg → List D → Prop} {pk : Bool} {e : E} {c : List E} {elt tgt iter : PySem.Expr} {ifs : List PySem.Expr} {scope : Scope} {pos : Pos} {P : List D → Store → Prop} {R : Flow → Shared → Prop}
    (X : Fy κ) (it : Iter κ.c κ.A I J) (q1 : All2 (fun i x => varOk κ.env.scope κ.nf i x = true) ts xs) (q2 : TgtIs pk tgt xs) (bs : ∀ x ∈ xs, Bs κ x) (he : Snd e) (hc : SndL c) (de : decE κ.nf e κ.env.scope elt = true) (dc : decC κ.nf c κ.env.scope ifs = true)
    (zI : κ.Z I) (nI : ¬ FA κ.env I) (fI : κ.σ0.s.heap.get? I = none) (zK : κ.Z K) (nK : ¬ FA κ.env K) (fK : κ.σ0.s.heap.get? K = none) (IK : I ≠ K) (u : unset r ts = true)
    {ds out : List D} {ys : List Value} (s : Sr κ r none none σ) (j : J (ZO κ.Z none) σ ds) (pl : σ.s.heap.PlainList K (Array.mk ys)) (ro : All2 (Rd (ZO κ.Z none) σ) out ys) (hl : out.length + ds.length ≤ lim)
    (ev : compL (Mine.elt (wE (callF κ.n) e) (wC (callF κ.n) c) ts pk r) ds σ.S P)
    (k : ∀ l ys σ' h' t, Sr κ r none none σ' → σ'.s.heap.PlainList K (Array.mk ys) → All2 (Rd (ZO κ.Z none) σ') (out ++ l) ys → P l σ'.S → (∀ b o, b ≠ I → σ'.s.heap.get? b = some o → h'.get? b = some o) → R .next { σ'.s with heap := h', toks := t }) :
    codeG (model κ.c.prog κ.c.w) κ.A (.compLoop (.ListComp elt [⟨tgt, iter, ifs, 0⟩] scope pos) 0 (.ref I) (.ref K) κ.env) R σ.s := by
  induction ds generalizing σ out ys P with
  | nil => exact codeG_cturn (it.dn j fun h' t kb => k [] ys σ h' t s pl (by rw [List.append_nil]; exact ro) ev kb)
  | cons d ds ih =>
    refine codeG_cturn (it.nx s.inv (.inl zI) j fun v h' t kb ng Rd' j' => ?_)
    have sa := s.poked zI nI fI kb (let ⟨o, _, _, e, _⟩ := ng; ⟨o, e⟩) t
    have ev : bindP ts pk d r fun r' => wC (callF κ.n) c r' σ.S (kElt (wE (callF κ.n) e r') fun o S1 => compL (Mine.elt (wE (callF κ.n) e) (wC (callF κ.n) c) ts pk r) ds S1 fun l S2 => P (o.casesOn l (· :: l)) S2) := ev
    have sta := Stay.poke s.inv (.inl zI) kb t
    refine tgt_go X q1 q2 bs sa (List.all_eq_true.mpr fun _ _ => rfl) Rd' ng (bind_sub u ev) fun r' σ1 s1 same ev => ?_
    obtain ⟨sub, ev⟩ := ev
    rw [← show σ1.S = σ.S from same.S] at ev
    have st1 := same.stay X sa
    have j1 := it.stay j' st1 fun o e => same.kp I o nI e
    have pl1 : σ1.s.heap.PlainList K (Array.mk ys) := let ⟨z, e⟩ := pl; ⟨z, same.kp K _ nK (kb K _ IK.symm e)⟩
    have ro1 : All2 (Rd (ZO κ.Z none) σ1) out ys := ro.imp fun d w R => Rep.move st1.kp st1.back d (Rep.move sta.kp sta.back d R)
    have rest : ∀ b σ3, Ext noF σ1 σ3 → Sr κ r' none none σ3 → kElt (wE (callF κ.n) e r') (fun o S1 => compL (Mine.elt (wE (callF κ.n) e) (wC (callF κ.n) c) ts pk r) ds S1 fun l S2 => P (o.casesOn l (· :: l)) S2) b σ3.S →
        Br b (wpG (model κ.c.prog κ.c.w) κ.A (eval elt κ.env) (fun x s₄ => wpAny (model κ.c.prog κ.c.w) κ.A (call (.builtin "list.append") [.ref K, x]) (fun _ s₅ => codeG (model κ.c.prog κ.c.w) κ.A (.compLoop (.ListComp elt [⟨tgt, iter, ifs, 0⟩] scope pos) 0 (.ref I) (.ref K) κ.env) R s₅) noE s₄) σ3.s)
          (codeG (model κ.c.prog κ.c.w) κ.A (.compLoop (.ListComp elt [⟨tgt, iter, ifs, 0⟩] scope pos) 0 (.ref I) (.ref K) κ.env) R σ3.s) := fun b σ3 x3 s3 ev => by
      have after : ∀ σ4, Ext noF σ1 σ4 → J (ZO κ.Z none) σ4 ds ∧ σ4.s.heap.PlainList K (Array.mk ys) ∧ All2 (Rd (ZO κ.Z none) σ4) out ys := fun σ4 x4 =>
        ⟨it.stay j1 (Stay.ext x4) fun o e => x4.kp I o e fun m => m.elim (s1.inv.zm I (.inl zI)) id, let ⟨z, e⟩ := pl1; ⟨z, x4.kp K _ e fun m => m.elim (s1.inv.zm K (.inl zK)) id⟩, ro1.imp fun d w R => x4.rd R⟩
      cases b with
      | false =>
        obtain ⟨j3, pl3, ro3⟩ := after σ3 x3
        exact ih (s3.sub sub) j3 pl3 ro3 (Nat.le_trans (Nat.add_le_add_left (Nat.le_succ _) _) hl) ev k
      | true =>
        refine (he (κ.e r' none) elt de).1 σ3 _ _ (s3.g X) ev fun w v σ4 x4 g4 R4 ev => ?_
        apply asD_el ev R4; intro x _ R4 ev
        obtain ⟨j4, pl4, ro4⟩ := after σ4 (x3.trans x4)
        have s4 := (s3.step X x4 g4).sub sub
        have ln := ro4.length
        refine wpAny_list_append_plain pl4 (fun h5 P5 sb => ?_) (by have : lim = 1000000 := rfl; rw [sizeLine_eq]; simp only [List.size_toArray, List.length_cons] at *; omega)
        have st5 := Stay.poke s4.inv (.inl zK) (same_kb sb) σ4.s.toks
        have s5 := s4.poked zK nK fK (same_kb sb) (let ⟨z, e⟩ := P5; ⟨_, e⟩) σ4.s.toks
        refine ih (out := out ++ [x]) s5 (it.stay j4 st5 fun o e => same_kb sb I o IK e) ((show (Array.mk ys).push w = Array.mk (ys ++ [w]) from List.push_toArray ys w) ▸ P5) (All2.append ⟨_, _, rfl, Rep.move st5.kp st5.back x R4, rfl⟩ (ro4.imp fun d w => Rep.move st5.kp st5.back d)) ?_ ev fun l ys σ' h' t s p a b kb => k (x :: l) ys σ' h' t s p (by rw [List.append_assoc] at a; exact a) b kb
        rw [List.length_append, List.length_singleton, Nat.add_assoc, Nat.add_comm 1]
        exact hl
    rcases hc.sc (κ.e r' none) ifs dc with ⟨rfl, rfl⟩ | ⟨q, pq, rfl, rfl, st⟩
    · exact tests_nil (rest true σ1 (Ext.refl ..) s1 ev)
    · exact tests_one (st σ1 _ _ (s1.g X) ev fun b σ3 x3 g3 ev => rest b σ3 x3 (s1.step X x3 g3) ev)
end
end
section
noncomputable abbrev compK (κ : Kx) (sc : Scope) (ts : List Nat) (xs : List Str) (C : Addr) (Z : Addr → Prop) (σ0 : Sg) : Kt := ⟨κ.c, κ.n, κ.A, compEnvC sc (freeCells κ.env sc.names []) C κ.env, nmIn sc κ.nf ts xs, Z, noF, σ0⟩
section
variable {κ : Kx} {σ σ2 : Sg} {sc : Scope} {ts : List Nat} {xs : List Str} {C : Addr} {Z : Addr → Prop} {σ0 : Sg} {x : Str}
structure ScOk (κ : Kx) (sc : Scope) (xs : List Str) : Prop where
  kd : sc.kind = .function
  nocell : ∀ x, sc.names.lookup x ≠ some .cell
  loc : ∀ y ∈ sc.names, y.2 = .local → sc.names.lookup y.1 = some .local
  noc : ∀ y ∈ sc.names, y.2 ≠ .cell
  xs : ∀ x ∈ xs, sc.names.lookup x = some .local
  free : ∀ y ∈ sc.names, y.2 = .free → κ.env.scope.names.lookup y.1 = some .cell
theorem scOk_el (h : scOk sc xs = true) (h' : (sc.names.all fun y => y.2 != .free || κ.env.scope.names.lookup y.1 == some .cell) = true) : ScOk κ sc xs := by
  obtain ⟨h, h3⟩ := and_el h
  obtain ⟨h1, h2⟩ := and_el h
  have all := List.all_eq_true.mp h2
  refine ⟨beq_iff_eq.mp h1, fun x e => ?_, fun y m e => ?_, fun y m e => ?_, fun x m => beq_iff_eq.mp (List.all_eq_true.mp h3 x m), fun y m e => ?_⟩
  · have := (and_el (all _ (mem_of_lookup e))).1
    cases this
  · have := (and_el (all y m)).2
    rw [e] at this
    exact beq_iff_eq.mp this
  · have := (and_el (all y m)).1
    rw [e] at this; cases this
  · have := List.all_eq_true.mp h' y m
    rw [e] at this
    exact beq_iff_eq.mp this
theorem kind_in (kd : κ.env.scope.kind = .function) (h : ScOk κ sc xs) {k : NameKind} (e : (relabel sc κ.env).names.lookup x = some k) : (k = .cell ∧ sc.names.lookup x = some .free ∧ κ.env.scope.names.lookup x = some .cell) ∨ (k ≠ .free ∧ k ≠ .cell) := by
  rw [lookup_relabel] at e
  obtain ⟨k', e1, e2⟩ := Option.map_eq_some_iff.mp e
  by_cases hk : k' = .free
  · subst hk
    have hc := h.free _ (mem_of_lookup e1) rfl
    rw [if_pos (by rw [kd, show κ.env.kindOf x = some .cell from hc]; rfl)] at e2
    exact .inl ⟨e2.symm, e1, hc⟩
  · rw [if_neg (fun q => hk (beq_iff_eq.mp (and_el (and_el q).1).1))] at e2
    subst e2
    exact .inr ⟨hk, fun q => h.nocell x (q ▸ e1)⟩
theorem kind_free (kd : κ.env.scope.kind = .function) (h : ScOk κ sc xs) (e : sc.names.lookup x = some .free) : (relabel sc κ.env).names.lookup x = some .cell := by
  rw [lookup_relabel, e, Option.map_some, if_pos (by rw [kd, show κ.env.kindOf x = some .cell from h.free _ (mem_of_lookup e) rfl]; rfl)]
theorem kind_loc (e : sc.names.lookup x = some .local) : (relabel sc κ.env).names.lookup x = some .local := by rw [lookup_relabel, e]; rfl
theorem fc_ok (env : Env) (names : List (Str × NameKind)) : (∀ x a, (freeCells env names []).lookup x = some a → env.cells.lookup x = some a) ∧ ∀ x a, ((x, NameKind.free) ∈ names ∧ env.cells.lookup x = some a) ∨ ([] : List (Str × Addr)).lookup x = some a → (freeCells env names []).lookup x = some a := freeCells_ok (env := env) (names := names) (cs := []) fun _ _ e => nomatch e
theorem nm_cases {i : Nat} (e : nmIn sc κ.nf ts xs i = some x) : (ts.zip xs).lookup i = some x ∨ (κ.nf i = some x ∧ sc.names.lookup x = some .free) := by
  unfold nmIn at e
  cases q : (ts.zip xs).lookup i with
  | some y => rw [q] at e; exact .inl e
  | none =>
    rw [q] at e
    obtain ⟨e1, e2⟩ := Option.filter_eq_some_iff.mp e
    exact .inr ⟨e1, beq_iff_eq.mp e2⟩
theorem comp_fy (g : G κ σ) (h : ScOk κ sc xs) (hsub : ∀ b, κ.Z b → Z b) (zC : Z C) (nx : xs.Nodup) : Fy (compK κ sc ts xs C Z σ0) := by
  have fc := fc_ok κ.env sc.names
  refine ⟨g.ok, g.call, g.bud, ⟨h.kd, g.ev.glob, g.ev.bi, zC, fun x a e => hsub _ (g.ev.zc x a (fc.1 x a e)), fun x e => ?_⟩, fun x e => ?_, fun i j x h1 h2 => ?_⟩
  · rcases kind_in g.ev.kind h e with ⟨_, e1, e2⟩ | n
    · obtain ⟨a, ha⟩ := g.ev.cf x e2
      exact ⟨a, fc.2 x a (.inl ⟨mem_of_lookup e1, ha⟩)⟩
    · exact absurd rfl n.2
  · rcases kind_in g.ev.kind h e with ⟨q, _⟩ | n
    · cases q
    · exact n.1 rfl
  · have out : ∀ {i : Nat}, (ts.zip xs).lookup i = some x → sc.names.lookup x = some .free → False := fun e q => by
      rw [h.xs x (List.of_mem_zip (mem_of_lookup e)).2] at q; cases q
    rcases nm_cases h1 with a | ⟨a, a'⟩
    · rcases nm_cases h2 with b | ⟨b, b'⟩
      · exact zip_inj nx a b
      · exact (out a b').elim
    · rcases nm_cases h2 with b | ⟨b, b'⟩
      · exact (out b a').elim
      · exact g.inj i j x a b
theorem comp_sr (g : G κ σ) (h : ScOk κ sc xs) (x : Ext noF σ σ2) (I : Inv κ.c (ZO Z none) σ2) (mv : ∀ v w, Rv κ.Z σ v w → Rv (ZO Z none) σ2 v w) (hC : ∃ m, σ2.s.heap.Ns C m) (zC : ¬ κ.Z C) (kk : ∀ b o, σ.s.heap.get? b = some o → σ2.s.heap.get? b = some o) (u : unset κ.r ts = true) :
    Sr (compK κ sc ts xs C Z σ) κ.r none none σ2 := by
  have fc := fc_ok κ.env sc.names
  refine ⟨x, I, fun i v x h1 h2 h3 => ?_, ⟨hC, fun x a e => ?_, fun x y a e1 e2 => g.frm.ap x y a (fc.1 x a e1) (fc.1 y a e2)⟩, rfl, fun _ q => nomatch q⟩
  · rcases nm_cases h2 with e | ⟨e1, e2⟩
    · have := unset_el u (List.of_mem_zip (mem_of_lookup e)).1
      rw [show slotOf κ.r i = some v from h1] at this; cases this
    · have hc := h.free _ (mem_of_lookup e2) rfl
      obtain ⟨w, a, R⟩ := g.locs i v x h1 e1 (by rw [hc]; rfl)
      refine ⟨w, ?_, mv v w R⟩
      rcases a with ⟨k, _⟩ | ⟨_, a, ha, o, ho, hd⟩
      · rw [show κ.env.kindOf x = some .cell from hc] at k; cases k
      · exact .inr ⟨.inl (kind_free g.ev.kind h e2), a, fc.2 x a (.inl ⟨mem_of_lookup e2, ha⟩), o, kk _ _ ho, hd⟩
  · have ha := fc.1 x a e
    obtain ⟨_, v, o, ho, hd⟩ := g.frm.cl x a ha
    exact ⟨fun (q : a = C) => zC (q ▸ g.ev.zc x a ha), v, o, kk _ _ ho, hd⟩
theorem comp_q1 (h : ScOk κ sc xs) (nt : ts.Nodup) (hl : xs.length = ts.length) : All2 (fun i x => varOk (relabel sc κ.env) (nmIn sc κ.nf ts xs) i x = true) ts xs :=
  (zip_all nt hl).imp fun i x e => by
    refine Bool.and_eq_true_iff.mpr ⟨?_, by rw [kind_loc (h.xs x (List.of_mem_zip (mem_of_lookup e.2)).2)]; rfl⟩
    unfold nmIn
    rw [e.2]
    exact beq_self_eq_true _
theorem comp_go {J : (Addr → Prop) → Sg → List D → Prop} {I K : Addr} {h₁ : Heap} {t : Nat} {m : Str → Option Value} {ds : List D} {pk : Bool} {e : E} {c : List E} {elt tgt iter : PySem.Expr} {ifs : List PySem.Expr} {pos : Pos} {P : List D → Store → Prop} {R : Shared → Prop} (g : G κ σ) (h : ScOk κ sc xs) (it : Iter κ.c κ.A I J)
    (nt : ts.Nodup) (nx : xs.Nodup) (hl : xs.length = ts.length) (q2 : TgtIs pk tgt xs) (he : Snd e) (hc : SndL c)
    (de : decE (nmIn sc κ.nf ts xs) e (inComp κ.env.scope sc) elt = true) (dc : decC (nmIn sc κ.nf ts xs) c (inComp κ.env.scope sc) ifs = true) (u : unset κ.r ts = true) (hlim : ds.length ≤ lim) (ev : compL (Mine.elt (wE (callF κ.n) e) (wC (callF κ.n) c) ts pk κ.r) ds σ.S P)
    (fr : ∀ b, (b = I ∨ b = K ∨ b = C) → σ.s.heap.get? b = none) (IK : I ≠ K) (IC : I ≠ C) (KC : K ≠ C) (kk : ∀ b o, σ.s.heap.get? b = some o → h₁.get? b = some o) (hI : ∃ o, h₁.get? I = some o) (hK : h₁.PlainList K (Array.mk [])) (hC : h₁.Ns C m)
    (hJ : ∀ Z' : Addr → Prop, (∀ a o, σ.s.heap.get? a = some o → Z' a → κ.Z a) → J Z' (σ.to h₁ t) ds)
    (k : ∀ l σ' m, Ext noF σ σ' → Inv κ.c (fun b => κ.Z b ∨ b = C) σ' → Rd (fun b => κ.Z b ∨ b = C) σ' (.lst l) (.ref K) → σ'.s.heap.Ns C m → P l σ'.S → R σ'.s) :
    codeG (model κ.c.prog κ.c.w) κ.A (.compLoop (.ListComp elt [⟨tgt, iter, ifs, 0⟩] sc pos) 0 (.ref I) (.ref K) (compEnvC sc (freeCells κ.env sc.names []) C κ.env)) (fun _ s' => R s') { σ.s with heap := h₁, toks := t } := by
  have nz : ∀ b, (b = I ∨ b = K ∨ b = C) → ¬ κ.Z b := fun b q z => by
    obtain ⟨o, e⟩ := g.inv.zs b z
    rw [fr b q] at e; cases e
  have l3 : ∀ b, (b = I ∨ b = K ∨ b = C) → ∃ o, h₁.get? b = some o := by
    rintro b (rfl | rfl | rfl)
    · exact hI
    · exact let ⟨z, e⟩ := hK; ⟨_, e⟩
    · exact let ⟨o, _, _, e, _⟩ := hC; ⟨o, e⟩
  let Z : Addr → Prop := fun b => κ.Z b ∨ (b = I ∨ b = K ∨ b = C)
  have out : ∀ b, ZO Z none b → Z b := fun b z => z.elim id fun q => nomatch q
  obtain ⟨x, I2, mv⟩ := aside_new (Y := ZO Z none) g.inv kk t fun b z => (out b z).imp id fun q => ⟨fr b q, l3 b q⟩
  have s2 : Sr (compK κ sc ts xs C Z σ) κ.r none none (σ.to h₁ t) := comp_sr g h x I2 mv ⟨m, hC⟩ (nz C (.inr (.inr rfl))) kk u
  have X : Fy (compK κ sc ts xs C Z σ) := comp_fy g h (fun b z => .inl z) (.inr (.inr (.inr rfl))) nx
  have nfa : ∀ b, b ≠ C → ¬ κ.Z b → ¬ FA (compK κ sc ts xs C Z σ).env b := fun b n z f => f.elim n fun ⟨y, q⟩ => z (g.ev.zc y b ((fc_ok κ.env sc.names).1 y b q))
  refine comp_turns X it (comp_q1 h nt hl) q2 (fun y hy b q => .inr ?_) he hc de dc (.inr (.inl rfl)) (nfa I IC (nz I (.inl rfl))) (fr I (.inl rfl)) (.inr (.inr (.inl rfl))) (nfa K KC (nz K (.inr (.inl rfl)))) (fr K (.inr (.inl rfl))) IK u s2 (hJ _ fun a o e z => (out a z).elim id fun q => by rw [fr a q] at e; cases e) hK (out := []) rfl (by rw [List.length_nil, Nat.zero_add]; exact hlim) ev fun l ys σ' h' t s3 p a b kb => ?_
  · rcases q with ⟨_, q⟩ | ⟨q, _⟩
    · exact fr b (.inr (.inr q))
    · rw [show (compK κ sc ts xs C Z σ).env.scope.names.lookup y = some .local from kind_loc (h.xs y hy)] at q; cases q
  · obtain ⟨m3, hC3⟩ := s3.frm.ns
    obtain ⟨x3, I3, mv3⟩ := drop_ok (Z := fun b => κ.Z b ∨ b = C) (P := (· = I)) s3.inv s3.ext (fun b z => .inl (z.imp id fun q => .inr (.inr q))) (fun b q => .inl (.inr (.inl q))) (fun b z q => z.elim (nz b (.inl q)) fun z => IC (q.symm.trans z)) (fun b q => fr b (.inl q)) kb t
    obtain ⟨z, e⟩ := p
    exact k l (σ'.to h' t) m3 x3 I3 ⟨K, ys, rfl, ⟨z, kb _ _ IK.symm e⟩, fun mm => mm.elim (s3.inv.zm K (.inl (.inr (.inr (.inl rfl))))) fun z => z.elim (nz K (.inr (.inl rfl))) KC, .of (a.imp fun d w R => mv3 (.d d) w R)⟩ (hC3.at' fun o e => kb _ _ IC.symm e) b
theorem comp_block {J : (Addr → Prop) → Sg → List D → Prop} {ob : Obj} {ds : List D} {pk : Bool} {e : E} {c : List E} {elt tgt iter : PySem.Expr} {ifs : List PySem.Expr} {pos : Pos} {P : List D → Store → Prop} {R : Value → Addr → Shared → Prop} (g : G κ σ) (h : ScOk κ sc xs) (fo : ob.isFreed = false) (it : Iter κ.c κ.A σ.s.heap.objs.size J)
    (hJ : ∀ Z' : Addr → Prop, (∀ a o, σ.s.heap.get? a = some o → Z' a → κ.Z a) → J Z' (σ.to (σ.s.heap.push ob) σ.s.toks) ds) (nt : ts.Nodup) (nx : xs.Nodup) (hl : xs.length = ts.length) (q2 : TgtIs pk tgt xs) (he : Snd e) (hc : SndL c)
    (de : decE (nmIn sc κ.nf ts xs) e (inComp κ.env.scope sc) elt = true) (dc : decC (nmIn sc κ.nf ts xs) c (inComp κ.env.scope sc) ifs = true) (u : unset κ.r ts = true) (hlim : ds.length ≤ lim) (ev : compL (Mine.elt (wE (callF κ.n) e) (wC (callF κ.n) c) ts pk κ.r) ds σ.S P)
    (k : ∀ l w C σ' m, σ.s.heap.get? C = none → Ext noF σ σ' → Inv κ.c (fun b => κ.Z b ∨ b = C) σ' → Rd (fun b => κ.Z b ∨ b = C) σ' (.lst l) w → σ'.s.heap.Ns C m → P l σ'.S → R w C σ'.s) :
    wpAny (model κ.c.prog κ.c.w) κ.A (newList []) (fun acc s₃ => wpAny (model κ.c.prog κ.c.w) κ.A (newFunctionEnv sc κ.env.globals (freeCells κ.env sc.names []) [] κ.env.qual none .none (some κ.env)) (fun cenv s₄ =>
      codeG (model κ.c.prog κ.c.w) κ.A (.compStart (.ListComp elt [⟨tgt, iter, ifs, 0⟩] sc pos) 0 (.ref σ.s.heap.objs.size) acc { cenv with scope := relabel sc κ.env }) (fun _ s' => R acc cenv.locals s') s₄) noE s₃) noE { σ.s with heap := σ.s.heap.push ob } := by
  refine wpAny_newObj_type (wpAny_newFunctionEnv (fun y hy => h.noc y hy) (fun y hy => nomatch hy) (fun h₁ hns₁ hsb₁ => ?_) h.kd)
  dsimp only at hns₁ hsb₁ ⊢
  generalize hH1 : σ.s.heap.push ob = H1 at *
  generalize hH2 : H1.push { cls := .type "list", dict := none, data := .seq ([] : List Value).toArray } = H2 at hns₁ hsb₁ ⊢
  have z1 : H1.objs.size = σ.s.heap.objs.size + 1 := by rw [← hH1, Heap.size_push]
  have z2 : H2.objs.size = σ.s.heap.objs.size + 2 := by rw [← hH2, Heap.size_push, z1]
  have k1 : ∀ b o, σ.s.heap.get? b = some o → H1.get? b = some o := fun b o e => hH1 ▸ push_kk _ b o e
  have k2 : ∀ b o, H1.get? b = some o → H2.get? b = some o := fun b o e => hH2 ▸ push_kk _ b o e
  have k3 : ∀ b o, H2.get? b = some o → h₁.get? b = some o := fun b o e => hsb₁.extBut b o (Nat.ne_of_lt (Heap.lt_size e)) (push_kk _ b o e)
  have fr : ∀ b, (b = σ.s.heap.objs.size ∨ b = H1.objs.size ∨ b = H2.objs.size) → σ.s.heap.get? b = none := fun b q => Heap.get?_none_of_le (by rcases q with q | q | q <;> omega)
  have hI : H1.get? σ.s.heap.objs.size = some ob := hH1 ▸ Heap.get?_push_size _ fo
  have hJ' : ∀ Z' : Addr → Prop, (∀ a o, σ.s.heap.get? a = some o → Z' a → κ.Z a) → J Z' (σ.to h₁ (σ.s.toks + ([] : List (Str × Value)).length)) ds := fun Z' hz =>
    it.stay (hJ Z' hz) (Stay.ext (grow_ok (F := noF) (σ := σ.to H1 σ.s.toks) (grow_ok (F := noF) g.inv k1 σ.s.toks).2 (fun b o e => k3 b o (k2 b o e)) _).1) fun o e => k3 _ _ (k2 _ _ e)
  have main : ∀ s₃ : Shared, s₃ = { σ.s with heap := h₁, toks := σ.s.toks + ([] : List (Str × Value)).length } → codeG (model κ.c.prog κ.c.w) κ.A (.compLoop (.ListComp elt [⟨tgt, iter, ifs, 0⟩] sc pos) 0 (.ref σ.s.heap.objs.size) (.ref H1.objs.size) (compEnvC sc (freeCells κ.env sc.names []) H2.objs.size κ.env)) (fun _ s' => R (.ref H1.objs.size) H2.objs.size s') s₃ := by
    rintro s₃ rfl
    refine comp_go g h it nt nx hl q2 he hc de dc u hlim ev fr (show (σ.s.heap.objs.size : Nat) ≠ H1.objs.size by omega) (show (σ.s.heap.objs.size : Nat) ≠ H2.objs.size by omega) (show (H1.objs.size : Nat) ≠ H2.objs.size by omega) (fun b o e => k3 b o (k2 b o (k1 b o e))) ⟨ob, k3 _ _ (k2 _ _ hI)⟩ ⟨0, k3 _ _ (hH2 ▸ Heap.get?_push_size _ rfl)⟩ hns₁ hJ' fun l σ' m => k l _ _ σ' m (fr _ (.inr (.inr rfl)))
  exact codeG_compStart (main _ rfl) (it.self (hJ' κ.Z fun _ _ _ z => z) (main _ rfl))
end
end
section
theorem allNames_el {es : List PySem.Expr} {P : List Str → Bool} (h : allNames es P = true) : ∃ xs, All2 IsName xs es ∧ P xs = true := by
  induction es generalizing P with
  | nil => exact ⟨[], rfl, h⟩
  | cons e es ih =>
    apply vName_el (C := fun e => ∃ xs, All2 IsName xs (e :: es) ∧ P xs = true) h; intro y q h
    obtain ⟨xs, a, b⟩ := ih h
    exact ⟨y :: xs, ⟨_, _, rfl, ⟨q, rfl⟩, a⟩, b⟩
theorem tgt_el {pk : Bool} {t : PySem.Expr} {P : List Str → Bool} (h : tgt pk t P = true) : ∃ xs, TgtIs pk t xs ∧ P xs = true := by
  cases pk with
  | false =>
    apply vName_el (C := fun t => ∃ xs, TgtIs false t xs ∧ P xs = true) h; intro y q h
    exact ⟨[y], ⟨_, _, rfl, ⟨q, rfl⟩, rfl⟩, h⟩
  | true =>
    apply vTup_el (C := fun t => ∃ xs, TgtIs true t xs ∧ P xs = true) h; intro es k p h
    obtain ⟨xs, a, b⟩ := allNames_el h
    exact ⟨xs, ⟨es, k, p, rfl, a⟩, b⟩
theorem comp_core {e : E} {ts : List Nat} {pk rg : Bool} {it c : List E} (he : Snd e) (hi : SndL it) (hc : SndL c) {κ : Kx} {x : PySem.Expr} (d : decE κ.nf (.comp e ts pk rg it c) κ.env.scope x = true) :
    ∃ y tg i f sc pos, x = .ListComp y [⟨tg, i, f, 0⟩] sc pos ∧ ∀ σ P Q use p, G κ σ → wE (callF κ.n) (.comp e ts pk rg it c) κ.r σ.S P →
      (∀ w v C σ' m, σ.s.heap.get? C = none → Ext noF σ σ' → Inv κ.c (fun b => κ.Z b ∨ b = C) σ' → Rv (fun b => κ.Z b ∨ b = C) σ' v w → σ'.s.heap.Ns C m → P v σ'.S → letGo (model κ.c.prog κ.c.w) κ.A use Q w C σ'.s) →
      W κ (comprehension (.ListComp y [⟨tg, i, f, 0⟩] sc pos) sc κ.env p (newList []) false (eval i κ.env) use) Q σ.s := by
  apply vComp_el d; intro y gs sc pos d
  apply on1_el (C := fun gs => ∃ y' tg i f sc' pos', PySem.Expr.ListComp y gs sc pos = .ListComp y' [⟨tg, i, f, 0⟩] sc' pos' ∧ _) d; intro gg d
  obtain ⟨tg, i, f, a⟩ := gg
  obtain ⟨d1, d⟩ := and_el d
  obtain ⟨d1, d2⟩ := and_el d1
  obtain rfl : a = 0 := of_decide_eq_true d1
  obtain ⟨xs, q2, d⟩ := tgt_el d
  obtain ⟨d3, d⟩ := and_el d
  obtain ⟨d3, d4⟩ := and_el d3
  obtain ⟨d4, d5⟩ := and_el d4
  obtain ⟨d5, d6⟩ := and_el d5
  obtain ⟨d6, d7⟩ := and_el d6
  obtain ⟨d8, d⟩ := and_el d
  obtain ⟨d9, d10⟩ := and_el d
  have h : ScOk κ sc xs := scOk_el d6 d7
  have hl := of_decide_eq_true d3
  refine ⟨y, tg, i, f, sc, pos, rfl, fun σ P Q use p g ev k => ?_⟩
  obtain ⟨u, ev⟩ := ifT_el ev
  refine g_comp rfl (noSet_el d2) (closureFor_cells fun y m e => g.ev.cf _ (h.free y m e)) h.kd h.loc ?_
  refine src_el (P := fun s => compP (elt (wE (callF κ.n) e) (wC (callF κ.n) c) ts pk κ.r) s P) hi d8 g ev fun w σ1 src x1 g1 so ev => ?_
  have old : ∀ {C : Addr}, σ1.s.heap.get? C = none → σ.s.heap.get? C = none := fun {C} q => by
    cases e : σ.s.heap.get? C with
    | none => rfl
    | some o => obtain ⟨o', e'⟩ := x1.st C o e; rw [q] at e'; cases e'
  cases src with
  | items ds =>
    obtain ⟨ob, J, fo, it, hp, hJ⟩ := so
    exact hp _ (comp_block g1 h fo it hJ (nodupNat_nodup d4) (nodupTx_nodup d5) hl q2 he hc d9 d10 u ev.1 ev.2.h fun l w C σ' m f x I R n p => k w (.d (.lst l)) C σ' m (old f) (x1.trans x) I R n p)
  | keys j l =>
    obtain ⟨hj, p, hp, rfl⟩ := so
    have hno : ∀ l p, σ1.S[j]? = some (.lock l) → σ1.ft[j]? = some p → False := fun _ _ q _ => nomatch hj.symm.trans q
    have xk := (Ext.refl noF σ1).relabel (y := .lock l) hno
    have gk := g1.ext xk (inv_relabel g1.inv hj fun _ _ _ _ h => h)
    have hk : (σ1.S.set j (.lock l))[j]? = some (.lock l) := List.getElem?_set_self (List.getElem?_eq_some_iff.mp hj).1
    obtain ⟨ob, J, fo, it, hq, hJ⟩ := open_dict g.bud.hd gk.inv hk hp
    refine hq _ (comp_block gk h fo it hJ (nodupNat_nodup d4) (nodupTx_nodup d5) hl q2 he hc d9 d10 u (Nat.le_trans (Nat.le_of_eq (List.length_map ..)) ev.1) ev.2.h fun l' w C σ' m f x I R n pp => ?_)
    have hl' := (x.lock j l p hk hp).1
    exact k w (.d (.lst l')) C ⟨σ'.ft, σ'.S.set j (.dict l), σ'.s⟩ m (old f) (x1.trans ((xk.trans x).relabel (y := .dict l) hno)) (inv_relabel I hl' fun _ _ _ _ h => h) R n pp
theorem s_comp {e : E} {ts : List Nat} {pk rg : Bool} {it c : List E} (he : Snd e) (hi : SndL it) (hc : SndL c) : Snd (.comp e ts pk rg it c) := fun κ x d => by
  obtain ⟨y, tg, i, f, sc, pos, rfl, core⟩ := comp_core he hi hc d
  refine both (fun σ P Q g ev k => ?_) rfl
  show wpG _ _ (eval (.ListComp y [⟨tg, i, f, 0⟩] sc pos) κ.env) _ _
  rw [eval_ListComp]
  refine core σ P Q none _ g ev fun w v C σ' m f0 x I R n p => ⟨m, n, fun h' sb => ?_⟩
  have nz : ¬ κ.Z C := fun z => by
    obtain ⟨o, e⟩ := g.inv.zs C z
    rw [f0] at e; cases e
  obtain ⟨x2, I2, mv⟩ := drop_ok (P := (· = C)) I x (fun b (z : κ.Z b) => .inl z) (fun b q => .inr q) (fun b z q => nz (q ▸ z)) (fun b q => q ▸ f0) (same_kb sb) σ'.s.toks
  exact k w v _ x2 (g.ext x2 I2) (mv v w R) p
theorem ss_asgC {j : Nat} {e : E} {ts : List Nat} {pk rg : Bool} {it c : List E} (he : Snd e) (hi : SndL it) (hc : SndL c) : SS (.asgC j e ts pk rg it c) := fun κ p X d r o oa σ Q R QF s ev k => by
  apply vAsg_el d; intro ts' v pos d
  apply on1_el d; intro t d
  obtain ⟨d, d1⟩ := and_el d
  obtain ⟨y, tg, i, f, sc, cp, rfl, core⟩ := comp_core (κ := κ.e r oa) he hi hc d1
  refine vName_el (C := fun z => z = t → Wt κ (exec (.Assign [t] (.ListComp y [⟨tg, i, f, 0⟩] sc cp) pos) κ.env) QF σ.s) d ?_ rfl
  intro x q d e
  subst e
  obtain ⟨d2, d⟩ := and_el d
  obtain ⟨d3, d⟩ := and_el d
  obtain ⟨d4, d⟩ := and_el d
  obtain ⟨hx, hv⟩ := varOk_el d2
  have d : (!sc.names.any fun p => p.1 == x && (p.2 == .local || p.2 == .cell)) = true := d
  have hsw : swapsWith (.ListComp y [⟨tg, i, f, 0⟩] sc cp) (some (.Name x q)) pos.line κ.env = pure true := by
    show pure ((κ.env.blockKind == .function && κ.env.kindOf x == some .local && q.line == cp.line) && !(sc.names.any fun p => p.1 == x && (p.2 == .local || p.2 == .cell))) = _
    have kf : κ.env.blockKind = .function := by unfold Env.blockKind; rw [X.ev.kind]; rfl
    rw [kf, show κ.env.kindOf x = some .local from beq_iff_eq.mp d3, show (q.line == cp.line) = true from d4, d]
    rfl
  unfold Wt
  rw [exec_Assign_Name_used _ _ _ _ hsw]
  refine wpG_sat (wpG_bind ?_)
  show wpG _ _ (do let _ ← comprehension (.ListComp y [⟨tg, i, f, 0⟩] sc cp) sc κ.env _ (newList []) false (eval i κ.env) (some (assign (.Name x q) κ.env))) _ _
  refine wpG_then (core σ _ (fun _ s => QF .next s) (some (assign (.Name x q) κ.env)) _ (s.g X.toFy) ev fun w v C σ' m f0 x1 I R n ev => ?_) fun _ _ h => wpG_pure (wpG_pure h)
  obtain ⟨hf, ev⟩ := ifT_el ev
  obtain ⟨_, I', mv⟩ := drop_ok (P := fun _ => False) (Z := ZO (κ.aside C).Z oa) (h' := σ'.s.heap) I x1 (fun b z => z.elim (fun z => z.imp .inl id) fun q => .inl (.inr q)) (fun _ q => q.elim) (fun _ _ q => q) (fun _ q => q.elim) (fun _ _ _ e => e) σ'.s.toks
  obtain ⟨s1, nz, f1, _⟩ := s.more X x1 I' f0
  refine wpAny_assign_Name (store_var (κ := κ.aside C) X.aside.toFy (X.aside.bs x) s1 hx hv (free_of hf) (mv v w R) fun σ2 s2 _ e => ⟨m, n.at' fun o eo => e.kp C o (fun f => nz (X.za C f)) eo, fun h' sb => ?_⟩)
  have ev : Q (slotSet r j v) o σ'.S := ev
  rw [← show σ2.S = σ'.S from e.S] at ev
  exact k.nx _ _ _ _ (s2.drop X nz f1 (same_kb sb) σ2.s.toks).1 ev
end
section
section
variable {prog : Program} {w : World} {A : Around} {s : Shared} {R : Flow → Shared → Prop}
noncomputable def retOf (f : Flow) : Value := f.casesOn .none .none .none id
theorem codeG_func {body : List PySem.Stmt} {env : Env} (h : wpG (model prog w) (A.deeper env) (execs body env) (fun f s' => R (.ret (retOf f)) s') s) : codeG (model prog w) A (.func body env) R s := by
  refine codeG_of_tree rfl ?_
  show wpG _ (A.deeper env) (do point; match ← (execs body env).onRaise (leaving env) with | .ret v => ret v | _ => ret .none) _ s
  refine wpG_bind (wpG_of (wpAny_point (wpG_then (wpG_onRaise h) fun f s' h' => ?_)))
  cases f <;> exact wpG_pure h'
theorem codeG_cells {a : Addr} {o : Obj} {fd : FuncData} {body : List PySem.Stmt} {vals : List Value} {binds : List (Str × Value)}
    (hroom : A.depth < recursionLimit) (ho : s.heap.get? a = some o) (hdata : o.data = .func fd) (hlim : s.heap.NoLimit) (hcd : s.heap.CodeRec fd.code fd.qualname)
    (hbody : fd.body = .stmts body) (hbind : bindArgs fd ⟨vals, []⟩ = pure binds) (hclo : fd.closure = [])
    (hkind : ∀ x ∈ binds, fd.scope.names.lookup x.1 = some .local ∨ (fd.scope.names.lookup x.1 = some .cell ∧ ((cellsFrom (s.heap.objs.size + 1) fd.scope.names []).lookup x.1).isSome = true))
    (h : ∀ s₁, InCallC s (callEnvC fd s.heap.objs.size a).locals (bindL (callEnvC fd s.heap.objs.size a).kindOf binds fun _ => none) (callEnvC fd s.heap.objs.size a).cells
        (bindC (callEnvC fd s.heap.objs.size a).kindOf binds fun _ => none) s₁ →
      wpG (model prog w) (A.deeper (callEnvC fd s.heap.objs.size a)) (execs body (callEnvC fd s.heap.objs.size a)) (fun f s' => R (.ret (retOf f)) s') s₁)
    (hco : fd.scope.isCoroutine = false) (hgen : fd.scope.isGenerator = false) (hk : fd.scope.kind = .function) :
    codeG (model prog w) A (.call (.ref a) ⟨vals, []⟩) R s := by
  refine codeG_of_tree rfl (wpG_of ?_)
  show wpAny _ A.in1 (callAny (.ref a) ⟨vals, []⟩) _ _ s
  simp only [callAny]
  refine wpAny_bind (wpAny_load ho ?_)
  obtain ⟨c, oc, vs, tq, hc, hoc, hdc, hq⟩ := hcd
  simp only [hdata, callFunction, hco, hgen, hbody, hc]
  refine wpAny_bind (m := field (.ref c) 1) (wpAny_field hoc hdc hq (wpAny_bind (wpAny_pure ?_)))
  rw [hbind]
  refine wpAny_bind (wpAny_pure (wpAny_bind ?_))
  rw [hclo]
  refine wpAny_newFunctionEnv_cells hk hkind fun env he s' x => ?_
  subst he
  rw [← hc]
  exact wpAny_bind (wpAny_enterFrame (hlim.keeps x.toInCall.keep) hroom (wpAny_pure (.inl ⟨rfl, codeG_func (h s' x)⟩)))
end
theorem slot_start {vs : List V} {k i : Nat} {v : V} (h : slotOf (init vs k) i = some v) : vs[i]? = some v := by
  induction vs generalizing i with
  | nil =>
    have : ∀ k i, slotOf (List.replicate k none) i = none := fun k => by
      induction k with
      | zero => exact fun _ => rfl
      | succ k ih => exact fun i => i.casesOn rfl ih
    rw [show slotOf (init [] k) i = none from this k i] at h; cases h
  | cons a vs ih => cases i with
    | zero => exact h
    | succ i => exact ih h
theorem cells_has {x : Str} {names : List (Str × NameKind)} {n : Nat} {acc : List (Str × Addr)} (h : (∃ a, acc.lookup x = some a) ∨ names.lookup x = some .cell) : ∃ a, (cellsFrom n names acc).lookup x = some a := by
  induction names generalizing n acc with
  | nil => exact h.elim id fun q => nomatch q
  | cons y r ih =>
    obtain ⟨y, k⟩ := y
    unfold cellsFrom
    rw [List.lookup_cons] at h
    cases e : x == y with
    | true =>
      rw [e] at h
      split
      · exact ih (.inl ⟨n, by rw [List.lookup_cons, e]⟩)
      · rename_i nk
        exact ih (h.imp id fun (q : some k = some .cell) => by cases q; exact absurd rfl nk)
    | false =>
      rw [e] at h
      split
      · exact ih (h.imp (fun q => by rw [List.lookup_cons, e]; exact q) id)
      · exact ih h
theorem bind_not {ko : Str → Option NameKind} {x : Str} {xs : List Str} {ws : List Value} {m cm : Str → Option Value} (h : x ∉ xs) : bindL ko (xs.zip ws) m x = m x ∧ bindC ko (xs.zip ws) cm x = cm x := by
  induction xs generalizing ws m cm with
  | nil => exact ⟨rfl, rfl⟩
  | cons y xs ih => cases ws with
    | nil => exact ⟨rfl, rfl⟩
    | cons w ws =>
      have hx : x ∉ xs := fun q => h (.tail _ q)
      have hy : x ≠ y := fun q => h (q ▸ .head _)
      rw [List.zip_cons_cons, bindL, bindC]
      obtain ⟨a, b⟩ := ih (ws := ws) (m := if ko y = some .local then fun z => if z = y then some w else m z else m) (cm := if ko y = some .local then cm else fun z => if z = y then some w else cm z) hx
      refine ⟨a.trans ?_, b.trans ?_⟩
      · split
        · exact if_neg hy
        · rfl
      · split
        · rfl
        · exact if_neg hy
theorem bind_get {ko : Str → Option NameKind} {x : Str} {w : Value} {xs : List Str} {ws : List Value} {m cm : Str → Option Value} {i : Nat} (nd : xs.Nodup) (h1 : xs[i]? = some x) (h2 : ws[i]? = some w) :
    (ko x = some .local → bindL ko (xs.zip ws) m x = some w) ∧ (ko x ≠ some .local → bindC ko (xs.zip ws) cm x = some w) := by
  induction xs generalizing ws m cm i with
  | nil => cases h1
  | cons y xs ih => cases ws with
    | nil => cases h2
    | cons u ws =>
      have nd := List.nodup_cons.mp nd
      rw [List.zip_cons_cons, bindL, bindC]
      cases i with
      | succ i => exact ih nd.2 h1 h2
      | zero =>
        cases h1; cases h2
        exact ⟨fun k => (bind_not (cm := cm) nd.1).1.trans (by rw [if_pos k, if_pos rfl]), fun k => (bind_not (m := m) nd.1).2.trans (by rw [if_neg k, if_pos rfl])⟩
end
section
structure DecOK (fn : Fn) (sc : Scope) : Prop where
  kind : sc.kind = .function
  co : sc.isCoroutine = false
  gen : sc.isGenerator = false
  nofree : ∀ x, sc.names.lookup x ≠ some .free
  nd : (fn.names.map Str.ofString).Nodup
  par : ∀ x ∈ (fn.names.take fn.np).map Str.ofString, sc.names.lookup x = some .local ∨ sc.names.lookup x = some .cell
theorem decFn_el {fn : Fn} {sc : Scope} {body : List PySem.Stmt} (h : decFn fn sc body = true) : DecOK fn sc ∧ decB (nfOf fn.names) sc fn.body body = true := by
  obtain ⟨h, hb⟩ := and_el h
  obtain ⟨h, _⟩ := and_el h
  obtain ⟨h1, h⟩ := and_el h
  obtain ⟨h1, h2⟩ := and_el h1
  obtain ⟨h2, h3⟩ := and_el h2
  obtain ⟨h4, h⟩ := and_el h
  obtain ⟨h4, _⟩ := and_el h4
  obtain ⟨h5, h6⟩ := and_el h
  obtain ⟨h5, _⟩ := and_el h5
  refine ⟨⟨beq_iff_eq.mp h1, (Bool.not_eq_true' _).mp h2, (Bool.not_eq_true' _).mp h3, fun x e => ?_, nodupTx_nodup h5, fun x hx => ?_⟩, hb⟩
  · have := List.all_eq_true.mp h4 _ (mem_of_lookup e)
    cases this
  · obtain ⟨y, hy, rfl⟩ := List.mem_map.mp hx
    exact (Bool.or_eq_true_iff.mp (List.all_eq_true.mp h6 y hy)).imp beq_iff_eq.mp beq_iff_eq.mp
theorem nf_inj {names : List String} (nd : (names.map Str.ofString).Nodup) {i j : Nat} {y : Str} (e1 : nfOf names i = some y) (e2 : nfOf names j = some y) : i = j := by
  obtain ⟨l1, q1⟩ := List.getElem?_eq_some_iff.mp e1
  obtain ⟨l2, q2⟩ := List.getElem?_eq_some_iff.mp e2
  have pw := List.pairwise_iff_getElem.mp nd
  rcases Nat.lt_trichotomy i j with l | l | l
  · exact absurd (q1.trans q2.symm) (pw i j l1 l2 l)
  · exact l
  · exact absurd (q2.trans q1.symm) (pw j i l2 l1 l)
theorem frame_start {c : Cx} {n : Nat} {A : Around} {env : Env} {fn : Fn} {Z : Addr → Prop} {σ : Sg} {vs : List V} {ws : List Value} {s1 : Shared} (K : Ok c) (C : CallS c n) (B : Bud n A) (D : DecOK fn env.scope) (hg : env.globals = mainGlobals) (hb : env.builtins = builtinsNs) (hc : ∀ x, env.scope.names.lookup x = some .cell → ∃ a, env.cells.lookup x = some a)
    (I : Inv c Z σ) (R : Rvs Z σ vs ws) (hl : vs.length = fn.np)
    (x : InCallC σ.s env.locals (bindL env.kindOf (((fn.names.take fn.np).map Str.ofString).zip ws) fun _ => none) env.cells (bindC env.kindOf (((fn.names.take fn.np).map Str.ofString).zip ws) fun _ => none) s1) :
    Fx ⟨c, n, A, env, nfOf fn.names, fun b => Z b ∨ FA env b, noF, σ⟩ ∧ ∃ σ1, σ1.s = s1 ∧ σ1.S = σ.S ∧ Sr ⟨c, n, A, env, nfOf fn.names, fun b => Z b ∨ FA env b, noF, σ⟩ (init vs fn.nl) none none σ1 := by
  have fresh : ∀ b, FA env b → σ.s.heap.get? b = none := by
    rintro b (rfl | ⟨y, hy⟩)
    · exact Heap.get?_none_of_le x.toInCall.fresh
    · exact Heap.get?_none_of_le (Nat.le_of_lt (Nat.lt_of_le_of_lt x.toInCall.fresh (x.above _ _ (PySem.mem_of_lookup hy))))
  have live : ∀ b, FA env b → ∃ o, s1.heap.get? b = some o := by
    rintro b (rfl | ⟨y, hy⟩)
    · obtain ⟨o, _, _, e, _⟩ := x.toInCall.ns; exact ⟨o, e⟩
    · obtain ⟨o, e, _⟩ := x.cell y b hy; exact ⟨o, e⟩
  obtain ⟨h1, tk, rfl⟩ := x.toInCall.same
  have keep := x.toInCall.keep
  let κ : Kt := ⟨c, n, A, env, nfOf fn.names, fun b => Z b ∨ FA env b, noF, σ⟩
  obtain ⟨e, J, mv⟩ := aside_new (Y := ZO κ.Z none) I keep tk fun b z => z.elim (fun z => z.imp id fun f => ⟨fresh b f, live b f⟩) fun q => nomatch q
  refine ⟨⟨⟨K, C, B, ⟨D.kind, hg, hb, .inr (.inl rfl), fun y b e => .inr (.inr ⟨y, e⟩), hc⟩, D.nofree, fun i j y => nf_inj D.nd⟩, fun b f => .inr (fresh b f)⟩, σ.to h1 tk, rfl, rfl, ⟨e, J, fun i v y e1 e2 _ => ?_, ⟨⟨_, x.toInCall.ns⟩, fun y b e => ⟨Nat.ne_of_gt (x.above _ _ (PySem.mem_of_lookup e)), _, x.cell y b e⟩, fun y z b e1 e2 => PySem.name_of_addr x.apart (PySem.mem_of_lookup e1) (PySem.mem_of_lookup e2)⟩, rfl, fun _ q => nomatch q⟩⟩
  obtain ⟨w, hw, Rw⟩ := R.get (slot_start e1)
  have hi : i < fn.np := hl ▸ (List.getElem?_eq_some_iff.mp (slot_start e1)).1
  have hy : ((fn.names.take fn.np).map Str.ofString)[i]? = some y := by
    rw [List.map_take, List.getElem?_take_of_lt hi]; exact e2
  obtain ⟨g1, g2⟩ := bind_get (ko := env.kindOf) (m := fun _ => none) (cm := fun _ => none) (by rw [List.map_take]; exact D.nd.sublist (List.take_sublist _ _)) hy hw
  refine ⟨w, ?_, mv v w Rw⟩
  rcases D.par y (List.mem_of_getElem? hy) with k | k
  · exact .inl ⟨k, _, x.toInCall.ns, g1 k⟩
  · obtain ⟨b, hb'⟩ := hc y k
    refine .inr ⟨.inl k, b, hb', ?_⟩
    rw [← g2 fun q => nomatch k.symm.trans q]
    exact x.cell y b hb'
theorem callS_succ {c : Cx} {n : Nat} (K : Ok c) (C : CallS c n) (snd : ∀ l, SB l) : CallS c (n + 1) := fun C' f fn a hd F A Z σ vs ws P Q B I R ev k => by
  obtain ⟨o, fd, body, ho, _, hdata, hbody, hclo, hglob, hbi, hcr, hbind, hdec⟩ := F.h
  obtain ⟨fn', h, ev⟩ := onS_el ev
  cases hd.symm.trans h
  obtain ⟨hlen, ev⟩ := ifT_el ev
  have hlen := Nat.eq_of_beq_eq_true hlen
  obtain ⟨D, hb⟩ := decFn_el hdec
  refine wpG_call (codeG_cells (binds := ((fn.names.take fn.np).map Str.ofString).zip ws) (by have := B.dp; omega) (I.base _ _ ho) hdata (K.lim.keeps I.base) (hcr.keeps I.base) hbody (hbind ws (R.length.trans hlen)) hclo (fun x hx => ?_) (fun s1 x => ?_) D.co D.gen D.kind)
  · rcases D.par x.1 (List.of_mem_zip hx).1 with q | q
    · exact .inl q
    · obtain ⟨b, hb⟩ := cells_has (n := σ.s.heap.objs.size + 1) (acc := []) (.inr q)
      exact .inr ⟨q, by rw [hb]; rfl⟩
  · obtain ⟨X, σ1, rfl, eS, s⟩ := frame_start (n := n) (A := A.deeper (callEnvC fd σ.s.heap.objs.size a)) K C ⟨B.hd, by have := B.dp; show A.depth + 1 + _ + _ < _; omega, by have := B.un; show A.units + 3 + _ + _ < _; omega⟩ D hglob hbi (fun y q => cells_has (.inr q)) I R hlen x
    refine snd fn.body _ body X hb _ none none σ1 (kEnd P) P _ s (eS ▸ ev) ⟨fun r o oa σ2 s2 ev => ?_, fun w v r o oa σ2 s2 Rv ev => ?_⟩
    · obtain ⟨x, I, _⟩ := drop_ok (P := fun _ => False) (Z := Z) (h' := σ2.s.heap) s2.inv s2.ext (fun b z => .inl (.inl z)) (fun _ q => q.elim) (fun _ _ q => q) (fun _ q => q.elim) (fun _ _ _ e => e) σ2.s.toks
      exact ⟨_, rfl, k .none (.d .none) σ2 x I (Eq.refl Value.none) ev⟩
    · obtain ⟨x, I, mv⟩ := drop_ok (P := fun _ => False) (Z := Z) (h' := σ2.s.heap) s2.inv s2.ext (fun b z => .inl (.inl z)) (fun _ q => q.elim) (fun _ _ q => q) (fun _ q => q.elim) (fun _ _ _ e => e) σ2.s.toks
      exact ⟨_, rfl, k w v σ2 x I (mv v w Rv) ev⟩
theorem snd_all : ∀ e, Snd e := E.rec (motive_2 := SndL) s_any (fun _ => s_cst) (fun _ => s_var) (fun _ => s_gcon) (fun _ _ _ => s_bin) (fun _ _ _ => s_cmp) (fun _ _ _ _ _ => s_cmp2) (fun _ _ => s_inTop) (fun _ => s_not) (fun _ => s_neg) (fun _ => s_and) (fun _ => s_or) (fun _ _ _ => s_ite) (fun _ => s_tup) (fun _ => s_lst) (fun _ => s_glst) (fun _ => s_glist) s_log s_dic0 (fun _ _ => s_dict)
  (fun _ _ => s_attr) (fun _ _ => s_idx) (fun _ _ _ => s_slice) (fun _ _ => s_call) (fun _ _ => s_new) (fun _ _ _ => s_meth) (fun _ _ => s_bi) (fun _ _ _ _ _ _ => s_comp) snd_nil (fun _ _ => snd_cons)
end
section
theorem ss_any : SS .any := fun _ _ _ _ _ _ _ _ _ _ _ _ ev _ => ev.elim
theorem ss_frz : SS .frz := fun _ _ _ e _ _ _ _ _ _ _ _ _ _ => nomatch e
theorem sb_more {b : S} {l : List S} (h : SS b) (hl : SB l) : SB (b :: l) := by
  cases e : Nat.beq b.ctorIdx 18 with
  | false => exact sb_cons h hl e
  | true =>
    cases b with
    | frz => exact sb_frz hl
    | _ => cases e
theorem tt_all (t : T) : TT t := snd_t snd_all t
theorem sndL_all (l : List E) : SndL l := .of fun e _ => snd_all e
theorem sb_all : ∀ l, SB l := S.rec_1 (motive_1 := SS) (motive_2 := SB) ss_any (fun t e => ss_asg (tt_all t) (snd_all e)) (fun ts es => ss_par tt_all (sndL_all es)) (fun is es => ss_parV (sndL_all es)) (fun is k es => ss_parOwn (sndL_all es)) (fun is e => ss_unp (snd_all e))
  (fun t e => ss_aug snd_all (snd_all e)) (fun e => ss_ex (snd_all e)) (fun c a b => ss_iff (snd_all c)) (fun ts pk rg it b => ss_for (sndL_all it)) (fun c b => ss_wh (snd_all c)) (fun e => ss_ret (snd_all e)) ss_retn (fun b => ss_try)
  (fun i => ss_own) (fun i e => ss_ownB (snd_all e)) (fun i e => ss_app (snd_all e)) (fun i k e => ss_setB (snd_all k) (snd_all e)) ss_frz (fun i => ss_retB) (fun _ e _ _ _ it c => ss_asgC (snd_all e) (sndL_all it) (sndL_all c)) sb_nil fun b l => sb_more
theorem callS {c : Cx} (K : Ok c) : ∀ n, CallS c n
  | 0 => fun _ _ _ _ _ _ _ _ _ _ _ _ _ _ _ _ ev _ => ev.elim
  | n + 1 => callS_succ K (callS K n) sb_all
end
section
theorem zip_lookup {xs : List Str} {vs : List Value} {x : Str} (h : x ∈ xs) (hl : vs.length = xs.length) : ∃ v, (xs.zip vs).lookup x = some v := by
  induction xs generalizing vs with
  | nil => cases h
  | cons y xs ih => cases vs with
    | nil => cases hl
    | cons v vs =>
      rw [List.zip_cons_cons]
      by_cases e : x = y
      · exact ⟨v, by rw [e, List.lookup_cons_self]⟩
      · rw [List.lookup_cons, beq_eq_false_iff_ne.mpr e]
        exact ih ((List.mem_cons.mp h).resolve_left e) (Nat.succ.inj hl)
theorem zip_self {xs : List Str} {vs : List Value} (nd : xs.Nodup) (hl : vs.length = xs.length) : (xs.filterMap fun n => ((xs.zip vs).lookup n).map (n, ·)) = xs.zip vs := by
  induction xs generalizing vs with
  | nil => rfl
  | cons x xs ih => cases vs with
    | nil => cases hl
    | cons v vs =>
      have nd := List.nodup_cons.mp nd
      rw [List.zip_cons_cons, List.filterMap_cons, List.lookup_cons_self]
      refine congrArg ((x, v) :: ·) (Eq.trans ?_ (ih nd.2 (Nat.succ.inj hl)))
      have go : ∀ {l : List Str}, x ∉ l → (l.filterMap fun n => (((x, v) :: xs.zip vs).lookup n).map (n, ·)) = l.filterMap fun n => ((xs.zip vs).lookup n).map (n, ·) := fun {l} => by
        induction l with
        | nil => exact fun _ => rfl
        | cons y l ih =>
          intro n
          rw [List.filterMap_cons, List.filterMap_cons, List.lookup_cons, beq_eq_false_iff_ne.mpr fun (q : y = x) => n (q ▸ .head _), ih fun m => n (.tail _ m)]
      exact go nd.1
structure PlainArgs (fd : FuncData) (xs : List Str) : Prop where
  po : fd.params.posonlyargs = []
  nm : fd.params.args.map (·.arg) = xs
  va : fd.params.vararg = none
  ko : fd.params.kwonlyargs = []
  kw : fd.params.kwarg = none
  df : fd.defaults = .none
  nd : xs.Nodup
theorem PlainArgs.bind {fd : FuncData} {xs : List Str} (P : PlainArgs fd xs) {vals : List Value} (hl : vals.length = xs.length) : bindArgs fd ⟨vals, []⟩ = pure (xs.zip vals) := by
  obtain ⟨nm, q, ⟨po, ar, va, ko, kd, kw, de⟩, bd, sc, gl, cl, df, kwd, doc, pm, an, cd, ct, bn⟩ := fd
  obtain ⟨p1, p2, p3, p4, p5, p6, nd⟩ := P
  dsimp only at p1 p2 p3 p4 p5 p6
  subst p1; subst p3; subst p4; subst p5; subst p6
  have e0 : seqItems? Value.none = pure none := rfl
  have m0 : (xs.filter fun n => ((xs.zip vals).lookup n).isNone) = [] := List.filter_eq_nil_iff.mpr fun x hx => by
    obtain ⟨v, e⟩ := zip_lookup hx hl
    rw [e]; exact Bool.false_ne_true
  unfold bindArgs
  dsimp only
  rw [e0, List.map_nil, List.nil_append, p2]
  show (if _ then _ else _) = _
  rw [if_neg (fun h => absurd (of_decide_eq_true (and_el h).1) (by rw [hl]; exact Nat.lt_irrefl _))]
  have d0 : List.drop (((none : Option (Array Value)).getD #[]).toList.length - xs.length) ((none : Option (Array Value)).getD #[]).toList = [] := List.drop_nil
  rw [d0, List.zip_nil_right, show xs.length - ([] : List Value).length = xs.length from rfl, List.take_length, m0]
  show (pure ((xs ++ []).filterMap fun n => ((xs.zip vals).lookup n).map (n, ·)) : Sem _) = _
  rw [List.append_nil, zip_self nd hl]
end
section
noncomputable def vClsD (x : Data) (P : ClassData → Bool) : Bool := if h : x.ctorIdx = 8 then Data.cls.elim (motive := fun _ => Bool) x h fun a => P a else false
theorem vClsD_el {x : Data} {P : ClassData → Bool} (e : vClsD x P = true) : ∃ a, x = .cls a ∧ P a = true := by
  unfold vClsD at e
  by_cases h : x.ctorIdx = 8
  · rw [dif_pos h] at e
    exact Data.cls.elim (motive := fun x => ∀ h, Data.cls.elim (motive := fun _ => Bool) x h (fun a => P a) = true → ∃ a, x = .cls a ∧ P a = true) x h (fun a _ e => ⟨a, rfl, e⟩) h e
  · rw [dif_neg h] at e; cases e
noncomputable def vDict (x : Data) (P : Array DictEntry → Bool) : Bool := if h : x.ctorIdx = 3 then Data.dict.elim (motive := fun _ => Bool) x h fun a _ => P a else false
theorem vDict_el {x : Data} {P : Array DictEntry → Bool} (e : vDict x P = true) : ∃ a n, x = .dict a n ∧ P a = true := by
  unfold vDict at e
  by_cases h : x.ctorIdx = 3
  · rw [dif_pos h] at e
    exact Data.dict.elim (motive := fun x => ∀ h, Data.dict.elim (motive := fun _ => Bool) x h (fun a _ => P a) = true → ∃ a n, x = .dict a n ∧ P a = true) x h (fun a n _ e => ⟨a, n, rfl, e⟩) h e
  · rw [dif_neg h] at e; cases e
noncomputable def vSeq (x : Data) (P : Array Value → Bool) : Bool := if h : x.ctorIdx = 2 then Data.seq.elim (motive := fun _ => Bool) x h fun a _ => P a else false
theorem vSeq_el {x : Data} {P : Array Value → Bool} (e : vSeq x P = true) : ∃ a n, x = .seq a n ∧ P a = true := by
  unfold vSeq at e
  by_cases h : x.ctorIdx = 2
  · rw [dif_pos h] at e
    exact Data.seq.elim (motive := fun x => ∀ h, Data.seq.elim (motive := fun _ => Bool) x h (fun a _ => P a) = true → ∃ a n, x = .seq a n ∧ P a = true) x h (fun a n _ e => ⟨a, n, rfl, e⟩) h e
  · rw [dif_neg h] at e; cases e
noncomputable def tl {α : Type} (l : List α) (P : α → List α → Bool) : Bool := l.casesOn false P
theorem tl_el {α : Type} {l : List α} {P : α → List α → Bool} (e : tl l P = true) : ∃ a r, l = a :: r ∧ P a r = true := by
  cases l with
  | nil => cases e
  | cons a r => exact ⟨a, r, rfl, e⟩
noncomputable def addrOf (v : Value) : Addr := Value.rec (motive := fun _ => Addr) 0 0 0 (fun _ => 0) (fun _ _ => 0) (fun _ _ => 0) (fun _ _ => 0) (fun _ _ => 0) (fun _ => 0) (fun _ => 0) id v
noncomputable def isRef (v : Value) : Bool := Value.rec (motive := fun _ => Bool) false false false (fun _ => false) (fun _ _ => false) (fun _ _ => false) (fun _ _ => false) (fun _ _ => false) (fun _ => false) (fun _ => false) (fun _ => true) v
theorem isRef_el {v : Value} (e : isRef v = true) : v = .ref (addrOf v) := by cases v <;> first | rfl | cases e
abbrev Lk := Addr → Option Obj
def Lk.In (K : Lk) (h : Heap) := ∀ a o, K a = some o → h.get? a = some o
noncomputable def sQ (x y : Str) : Bool := Fast.sEq x y
theorem sQ_eq (x y : Str) : sQ x y = decide (x = y) := by
  cases e : sQ x y with
  | true => exact (decide_eq_true (Fast.sEq_iff.mp e)).symm
  | false => exact (decide_eq_false fun q => Bool.noConfusion (e.symm.trans (Fast.sEq_iff.mpr q))).symm
noncomputable def kEq (x : Str) (v : Value) : Bool := Value.rec (motive := fun _ => Bool) false false false (fun _ => false) (fun _ _ => false) (fun _ _ => false) (fun y _ => sQ y x) (fun _ _ => false) (fun _ => false) (fun _ => false) (fun _ => false) v
theorem kEq_eq (x : Str) (v : Value) : kEq x v = v.isStr x := by
  cases v with
  | str y t => exact sQ_eq y x
  | _ => rfl
noncomputable def nf (es : List DictEntry) (x : Str) : Option Value := @List.rec DictEntry (fun _ => Option Value) none (fun e _ ih => bif kEq x e.key then some e.val else ih) es
theorem nf_eq (es : Array DictEntry) (x : Str) : nf es.toList x = nsFind es x := by
  obtain ⟨es⟩ := es
  unfold nsFind findBy
  rw [List.find?_toArray]
  show nf es x = _
  induction es with
  | nil => rfl
  | cons e l ih =>
    show (bif kEq x e.key then some e.val else nf l x) = _
    rw [List.find?_cons, kEq_eq, ih]
    show _ = Option.map _ (match e.key.isStr x with | true => some e | false => _)
    cases e.key.isStr x <;> rfl
noncomputable def dicEs (K : Lk) (n : Addr) : Array DictEntry := ((K n).map fun o => Data.rec (motive := fun _ => Array DictEntry) #[] (fun _ => #[]) (fun _ _ => #[]) (fun es _ => es) (fun _ _ _ => #[]) (fun _ _ => #[]) (fun _ => #[]) (fun _ => #[]) (fun _ => #[]) (fun _ => #[]) #[] o.data).getD #[]
noncomputable def strKeys (es : Array DictEntry) : Bool := es.toList.all fun e => e.key.ctorIdx == 6
noncomputable def nsChk (K : Lk) (n : Addr) : Bool := (K n).any fun o => vDict o.data strKeys
noncomputable def mgEs (K : Lk) : List DictEntry := (dicEs K mainGlobals).toList
noncomputable def glb (K : Lk) (n : N) : Option Value := nf (mgEs K) n.str
noncomputable def cadOf (K : Lk) (n : N) : Addr := ((glb K n).map addrOf).getD 0
noncomputable def gref (K : Lk) (n : N) : Bool := (glb K n).any isRef
noncomputable def clsD (o : Obj) : Option ClassData := Data.rec (motive := fun _ => Option ClassData) none (fun _ => none) (fun _ _ => none) (fun _ _ => none) (fun _ _ _ => none) (fun _ _ => none) (fun _ => none) (fun _ => none) (fun c => some c) (fun _ => none) none o.data
noncomputable def nsOf (K : Lk) (C : Addr) : Addr := (((K C).bind clsD).map (·.ns)).getD 0
noncomputable def csEs (K : Lk) (k : N) : Array DictEntry := dicEs K (nsOf K (cadOf K k))
noncomputable def cdChk (C n : Addr) (o : Obj) (cd : ClassData) : Bool := (decide (cd.mro = [.ref C, .type "object"]) && (cd.ns == n && (cd.hasDict && (!cd.abstract && !cd.hasDel)))) &&
  tl o.slots.toList fun _ l => tl l fun _ l => tl l fun _ l => tl l fun _ l => tl l fun b l => tl l fun _ l => l.isEmpty && decide (b = some (.builtin "object.__new__"))
noncomputable def clsChk (K : Lk) (C n : Addr) : Bool := (K C).any fun o => decide (o.cls = .type "type") && vClsD o.data (cdChk C n o)
noncomputable def codeQ (K : Lk) (cd : Value) (q : Str) : Bool := (isRef cd && (K (addrOf cd)).any fun o => Data.rec (motive := fun _ => Bool) false (fun _ => false) (fun _ _ => false) (fun _ _ => false) (fun _ _ _ => false) (fun _ _ => false) (fun _ => false) (fun _ => false) (fun _ => false) (fun vs => tl vs.toList fun _ r => tl r fun v _ => kEq q v) false o.data)
noncomputable abbrev FV := Value × FuncBody × Scope × Arguments × List (Str × Addr) × Addr × Addr × Value × Bool
noncomputable def fnSee (K : Lk) (a : Addr) : Option FV := (K a).bind fun o => Data.rec (motive := fun _ => Option FV) none (fun _ => none) (fun _ _ => none) (fun _ _ => none) (fun _ _ _ => none) (fun _ _ => none) (fun _ => none) (fun fd => some (o.cls, fd.body, fd.scope, fd.params, fd.closure, fd.globals, fd.builtins, fd.defaults, codeQ K fd.code fd.qualname)) (fun _ => none) (fun _ => none) none o.data
noncomputable abbrev SV := List PySem.Stmt × Scope × Arguments
noncomputable def fdOf (x : Str) : PySem.Stmt → Option SV
  | .FunctionDef n a b _ _ _ s _ _ _ => bif sQ n x then some (b, s, a) else none
  | _ => none
noncomputable def clOf (x : Str) : PySem.Stmt → Option (List PySem.Stmt)
  | .ClassDef n _ _ b _ _ _ _ _ _ _ => bif sQ n x then some b else none
  | _ => none
noncomputable def findS {α : Type} (f : PySem.Stmt → Option α) (l : List PySem.Stmt) : Option α := @List.rec PySem.Stmt (fun _ => Option α) none (fun s _ ih => Option.rec (motive := fun _ => Option α) ih some (f s)) l
noncomputable def src (k m : N) : Option SV := bif Nat.beq k N.x_law then findS (fdOf m.str) PySem.Challenge.pw_no0088_01.main.body else (findS (clOf k.str) PySem.Challenge.pw_no0088_01.main.body).bind (findS (fdOf m.str))
noncomputable def fnSt (fn : Fn) (s : SV) : Bool := decFn fn s.2.1 s.1 &&
  ((s.2.2.posonlyargs.isEmpty && (s.2.2.args.map (·.arg) == (fn.names.take fn.np).map Str.ofString && s.2.2.vararg.isNone)) && (s.2.2.kwonlyargs.isEmpty && (s.2.2.kwarg.isNone && (nodupTx ((fn.names.take fn.np).map Str.ofString) && (fn.names.take fn.np).length == fn.np))))
noncomputable def fnWant (s : SV) : FV := (.type "function", .stmts s.1, s.2.1, s.2.2, [], mainGlobals, builtinsNs, .none, true)
noncomputable def adr (K : Lk) (k m : N) : Addr := bif Nat.beq k N.x_law then cadOf K m else ((nf (csEs K k).toList m.str).map addrOf).getD 0
noncomputable def fnsSee (K : Lk) : List (List (Option FV)) := fnT.map fun p => p.2.map fun m => fnSee K (adr K p.1 m.1)
noncomputable def fnsWant : List (List (Option FV)) := fnT.map fun p => p.2.map fun m => (src p.1 m.1).map fnWant
noncomputable def fnsSt : Bool := fnT.all fun p => p.2.all fun m => (src p.1 m.1).any (fnSt m.2)
noncomputable def methChk (es : List DictEntry) (as : List N) (m : N × Fn) : Bool := !keysIn m.1 as && (nf es m.1.str).any isRef
noncomputable def clsAll (K : Lk) (p : N × List N) : Bool := (!(Nat.beq p.1 N.x_law) && (gref K p.1 && (clsChk K (cadOf K p.1) (nsOf K (cadOf K p.1)) && nsChk K (nsOf K (cadOf K p.1))))) &&
  (((["__getattribute__", "__getattr__", "__setattr__"] : List Str).all fun x => (nf (csEs K p.1).toList x).isNone) && (p.2.all (fun n => (nf (csEs K p.1).toList n.str).isNone) && (decide (p.2.length ≤ 100) &&
  ((look p.1 fnT).getD []).all (methChk (csEs K p.1).toList p.2))))
mutual
noncomputable def repIn (K : Lk) : D → Value → Bool
  | .int i => fun v => Value.rec (motive := fun _ => Bool) false false false (fun _ => false) (fun j _ => decide (j = i)) (fun _ _ => false) (fun _ _ => false) (fun _ _ => false) (fun _ => false) (fun _ => false) (fun _ => false) v
  | .str n => fun v => kEq n.str v
  | .tup l => fun v => isRef v && (K (addrOf v)).any fun o => (decide (o.cls = .type "tuple") && (o.dict.isNone && o.slots.isEmpty)) && vSeq o.data fun items => repsIn K l items.toList
  | _ => fun _ => false
noncomputable def repsIn (K : Lk) : List D → List Value → Bool
  | [] => fun l => l.isEmpty
  | d :: r => fun l => tl l fun v l => repIn K d v && repsIn K r l
end
noncomputable def noGlob (K : Lk) (x : Str) : Bool := (nf (mgEs K) x).isNone
noncomputable def chkAll (K : Lk) : Bool := ((K mainGlobals).isSome && ((look .x_law fnT).getD []).all fun p => gref K p.1) && ((attrT.all (clsAll K) && gconT.all fun p => (glb K p.1).any (repIn K p.2)) &&
  ((([.len, .min, .max, .abs, .sum, .sorted, .bytes, .int, .list] : List Bi).all fun b => noGlob K (Str.ofString b.text)) && (noGlob K "range" && (noGlob K "bytearray" && topT.all fun p => gref K p.1 && !(cadOf K p.1 == sysModules)))))
noncomputable def keyText (v : Value) : Str := Value.rec (motive := fun _ => Str) Str.empty Str.empty Str.empty (fun _ => Str.empty) (fun _ _ => Str.empty) (fun _ _ => Str.empty) (fun x _ => x) (fun _ _ => Str.empty) (fun _ => Str.empty) (fun _ => Str.empty) (fun _ => Str.empty) v
noncomputable def dictSee (K : Lk) (a : Addr) : Option (List (Str × Int)) := (K a).bind fun o => bif decide (o.cls = .type "dict") && (o.dict.isNone && (o.slots.isEmpty && vDict o.data strKeys)) then some ((dicEs K a).toList.map fun e => (keyText e.key, e.hash)) else none
noncomputable def topSee (K : Lk) : List (Option (List (Str × Int))) := topT.map fun p => dictSee K (cadOf K p.1)
noncomputable def topWant (P : Params) : List (Option (List (Str × Int))) := topT.map fun p => some (p.2.map fun n => (n.str, PyData.keyHash P n.str))
noncomputable def tget (s : SharedT) : Lk := fun a => bif Nat.blt a s.n then (s.tree.get a).bind alive else none
theorem tget_in (s : SharedT) : Lk.In (tget s) s.abs.heap := fun a o e => by
  unfold tget at e
  cases q : Nat.blt a s.n with
  | false => rw [q] at e; cases e
  | true =>
    rw [q] at e
    obtain ⟨x, g, e⟩ := Option.bind_eq_some_iff.mp e
    exact (abs_get (Nat.le_of_ble_eq_true q) g).trans e
end
section
theorem any_el {α : Type} {o : Option α} {P : α → Bool} (e : o.any P = true) : ∃ a, o = some a ∧ P a = true := by
  cases o with
  | none => cases e
  | some a => exact ⟨a, rfl, e⟩
section
variable {K : Lk} {h : Heap} {c : Cx}
theorem codeQ_el (X : K.In h) {cd : Value} {q : Str} (e : codeQ K cd q = true) : h.CodeRec cd q := by
  obtain ⟨e1, e⟩ := and_el e
  obtain ⟨⟨cl, di, da, sl⟩, ho, e⟩ := any_el e
  cases da with
  | fields vs =>
    obtain ⟨a, r, hv, e⟩ := tl_el e
    obtain ⟨b, r, rfl, e⟩ := tl_el e
    cases b with
    | str n t =>
      have e := of_decide_eq_true ((sQ_eq n q).symm.trans e)
      subst e
      exact ⟨_, _, vs, t, isRef_el e1, X _ _ ho, rfl, by rw [← Array.getElem?_toList, hv]; rfl⟩
    | _ => cases e
  | _ => cases e
theorem fnSee_el (X : K.In c.hb) {a : Addr} {fn : Fn} {s : SV} (e : fnSee K a = some (fnWant s)) (e' : fnSt fn s = true) : FnOK c a fn := by
  obtain ⟨⟨cl, di, da, sl⟩, ho, e⟩ := Option.bind_eq_some_iff.mp e
  cases da with
  | func fd =>
    have e := Option.some.inj e
    have q1 : cl = _ := congrArg (·.1) e
    have q2 : fd.body = _ := congrArg (·.2.1) e
    have q3 : fd.scope = _ := congrArg (·.2.2.1) e
    have q4 : fd.params = _ := congrArg (·.2.2.2.1) e
    have q5 : fd.closure = _ := congrArg (·.2.2.2.2.1) e
    have q6 : fd.globals = _ := congrArg (·.2.2.2.2.2.1) e
    have q7 : fd.builtins = _ := congrArg (·.2.2.2.2.2.2.1) e
    have q8 : fd.defaults = _ := congrArg (·.2.2.2.2.2.2.2.1) e
    have q9 : codeQ K fd.code fd.qualname = _ := congrArg (·.2.2.2.2.2.2.2.2) e
    obtain ⟨e0, e⟩ := and_el e'
    obtain ⟨e1, e⟩ := and_el e
    obtain ⟨e1, e2⟩ := and_el e1
    obtain ⟨e2, e3⟩ := and_el e2
    obtain ⟨a1, e⟩ := and_el e
    obtain ⟨a2, e⟩ := and_el e
    obtain ⟨a4, a5⟩ := and_el e
    refine ⟨_, fd, s.1, X _ _ ho, q1, rfl, q2, q5, q6, q7, codeQ_el X q9, fun vals hl => PlainArgs.bind ⟨?_, ?_, ?_, ?_, ?_, q8, nodupTx_nodup a4⟩ ?_, q3 ▸ e0⟩
    · rw [q4]; exact List.isEmpty_iff.mp e1
    · rw [q4]; exact beq_iff_eq.mp e2
    · rw [q4]; exact Option.isNone_iff_eq_none.mp e3
    · rw [q4]; exact List.isEmpty_iff.mp a1
    · rw [q4]; exact Option.isNone_iff_eq_none.mp a2
    · rw [hl, List.length_map]; exact (beq_iff_eq.mp a5).symm
  | _ => cases e
theorem fn_el (X : K.In c.hb) (e : fnsSee K = fnsWant) (e' : fnsSt = true) {k m : N} {fn : Fn} {l : List (N × Fn)} (h1 : (k, l) ∈ fnT) (h2 : (m, fn) ∈ l) : FnOK c (adr K k m) fn := by
  have q := List.map_inj_left.mp (List.map_inj_left.mp e _ h1) _ h2
  obtain ⟨s, hs, st⟩ := any_el (List.all_eq_true.mp (List.all_eq_true.mp e' _ h1) _ h2)
  rw [hs] at q
  exact fnSee_el X q st
theorem mgq {mg : Str → Option Value} (X : K.In h) (hm : (K mainGlobals).isSome = true) (G : h.Ns mainGlobals mg) (x : Str) : nf (mgEs K) x = mg x := by
  obtain ⟨o, es, ep, ho, hd, _, hf⟩ := G
  obtain ⟨o', e⟩ := Option.isSome_iff_exists.mp hm
  have := X _ _ e
  rw [ho] at this
  cases this
  have q : dicEs K mainGlobals = es := by unfold dicEs; rw [e]; show Data.rec _ _ _ _ _ _ _ _ _ _ _ o.data = es; rw [hd]
  unfold mgEs
  rw [q, nf_eq]
  exact hf x
theorem nsChk_el (X : K.In h) {n : Addr} (e : nsChk K n = true) : h.Ns n (nsFind (dicEs K n)) := by
  obtain ⟨⟨cl, di, da, sl⟩, ho, e⟩ := any_el e
  obtain ⟨es, ep, hd, e⟩ := vDict_el e
  cases hd
  have q : dicEs K n = es := by unfold dicEs; rw [ho]; rfl
  rw [q]
  refine ⟨_, es, ep, X _ _ ho, rfl, fun en he => ?_, fun _ => rfl⟩
  have := List.all_eq_true.mp e en (Array.mem_toList_iff.mpr he)
  cases hk : en.key with
  | str x t => exact ⟨x, t, rfl⟩
  | _ => rw [hk] at this; cases this
theorem cdChk_el {C n : Addr} {o : Obj} {cd : ClassData} (e : cdChk C n o cd = true) : ∃ nm q bs sn sub col k0 k1 k2 k3 k5, Obj.mk (.type "type") o.dict (.cls cd) o.slots = excClassObj nm q C n bs [.type "object"] true sn sub false col o.dict k0 k1 k2 k3 k5 "object.__new__" := by
  obtain ⟨cl, di, da, ⟨sl⟩⟩ := o
  obtain ⟨nm, bs, mro, ns, q, hD, sn, sub, ab, col, del⟩ := cd
  obtain ⟨e2, e⟩ := and_el e
  obtain ⟨k0, l0, q0, f0⟩ := tl_el (l := sl) e
  obtain ⟨k1, l1, q1, f1⟩ := tl_el f0
  obtain ⟨k2, l2, q2, f2⟩ := tl_el f1
  obtain ⟨k3, l3, q3, f3⟩ := tl_el f2
  obtain ⟨b, l4, q4, f4⟩ := tl_el f3
  obtain ⟨k5, l5, q5, f5⟩ := tl_el f4
  obtain ⟨f5, e7⟩ := and_el f5
  obtain ⟨e2, e3⟩ := and_el e2
  obtain ⟨e3, e4⟩ := and_el e3
  obtain ⟨e4, e5⟩ := and_el e4
  obtain ⟨e5, e6⟩ := and_el e5
  refine ⟨nm, q, bs, sn, sub, col, k0, k1, k2, k3, k5, ?_⟩
  rw [show mro = [.ref C, .type "object"] from of_decide_eq_true e2, show ns = n from beq_iff_eq.mp e3, show hD = true from e4, show ab = false from (Bool.not_eq_true' _).mp e5, show del = false from (Bool.not_eq_true' _).mp e6,
    q0, q1, q2, q3, q4, q5, List.isEmpty_iff.mp f5, of_decide_eq_true e7]
theorem clsChk_el (X : K.In h) {C n : Addr} (e : clsChk K C n = true) : ∃ nm q bs sn sub col dd k0 k1 k2 k3 k5, h.get? C = some (excClassObj nm q C n bs [.type "object"] true sn sub false col dd k0 k1 k2 k3 k5 "object.__new__") := by
  obtain ⟨o, ho, e⟩ := any_el e
  obtain ⟨e1, e⟩ := and_el e
  obtain ⟨cd, hd, e⟩ := vClsD_el e
  obtain ⟨nm, q, bs, sn, sub, col, k0, k1, k2, k3, k5, r⟩ := cdChk_el e
  exact ⟨nm, q, bs, sn, sub, col, _, k0, k1, k2, k3, k5, (X _ _ ho).trans (by rw [← r, ← hd, ← of_decide_eq_true e1])⟩
theorem vSeqT (X : K.In h) {a : Addr} {P : Array Value → Bool} (e : ((K a).any fun o => (decide (o.cls = .type "tuple") && (o.dict.isNone && o.slots.isEmpty)) && vSeq o.data P) = true) : ∃ vs, PTup h a (Array.mk vs) ∧ P (Array.mk vs) = true := by
  obtain ⟨⟨cl, di, da, sl⟩, ho, e⟩ := any_el e
  obtain ⟨e1, e⟩ := and_el e
  obtain ⟨e1, e2⟩ := and_el e1
  obtain ⟨e2, e3⟩ := and_el e2
  obtain ⟨⟨vs⟩, n, hd, e⟩ := vSeq_el e
  cases of_decide_eq_true e1
  cases Option.isNone_iff_eq_none.mp e2
  cases Array.isEmpty_iff.mp e3
  cases hd
  exact ⟨vs, ⟨n, X _ _ ho⟩, e⟩
theorem repIn_el (X : K.In h) : ∀ d : D, ∀ v, repIn K d v = true → Rep noF h d v := D.rec (motive_1 := fun d => ∀ v, repIn K d v = true → Rep noF h d v) (motive_2 := fun l => ∀ vs, repsIn K l vs = true → Reps noF h l vs)
  (fun _ e => nomatch e) (fun _ _ e => nomatch e) (fun i v e => by cases v with
    | int j t => exact ⟨t, by rw [of_decide_eq_true e]⟩
    | _ => cases e) (fun n v e => by cases v with
    | str x t => exact ⟨t, by rw [of_decide_eq_true ((sQ_eq x n.str).symm.trans e)]⟩
    | _ => cases e) (fun _ _ e => nomatch e)
  (fun l ih v e => by
    obtain ⟨e1, e⟩ := and_el e
    obtain ⟨vs, p, e⟩ := vSeqT X e
    exact ⟨addrOf v, vs, isRef_el e1, p, id, ih vs e⟩)
  (fun _ _ _ e => nomatch e) (fun vs e => List.isEmpty_iff.mp e) fun d l h1 h2 vs e => by
    obtain ⟨v, r, rfl, e⟩ := tl_el e
    obtain ⟨e1, e2⟩ := and_el e
    exact ⟨v, r, rfl, h1 v e1, h2 r e2⟩
theorem any_keys (k : N) (ks : List N) : (ks.any fun m => decide (m = k)) = keysIn k ks := by
  induction ks with
  | nil => rfl
  | cons m r ih =>
    rw [List.any_cons, ih]
    refine congrArg (· || keysIn k r) ?_
    by_cases e : m = k
    · rw [decide_eq_true e, e]; exact (Nat.beq_refl k).symm
    · rw [decide_eq_false e]
      cases q : Nat.beq m k with
      | true => exact absurd (Nat.eq_of_beq_eq_true q) e
      | false => rfl
theorem dictSee_el {prog : Program} {w : World} (X : K.In h) {a : Addr} {ks : List N} (e : dictSee K a = some (ks.map fun n => (n.str, PyData.keyHash w.params n.str))) :
    ∃ f, h.MapOf (mixKind prog w) a f ∧ ∀ k, (f (.s k)).isSome = keysIn k ks := by
  obtain ⟨⟨cl, di, da, sl⟩, ho, e⟩ := Option.bind_eq_some_iff.mp e
  cases q : (decide (cl = .type "dict") && (di.isNone && (sl.isEmpty && vDict da strKeys))) with
  | false => rw [show (decide (_ = _) && _) = false from q] at e; cases e
  | true =>
    rw [show (decide (_ = _) && _) = true from q] at e
    obtain ⟨e1, q⟩ := and_el q
    obtain ⟨e2, q⟩ := and_el q
    obtain ⟨e3, q⟩ := and_el q
    obtain ⟨⟨es⟩, ep, hd, q⟩ := vDict_el q
    cases of_decide_eq_true e1
    cases Option.isNone_iff_eq_none.mp e2
    cases Array.isEmpty_iff.mp e3
    cases hd
    have hs : dicEs K a = Array.mk es := by unfold dicEs; rw [ho]; rfl
    rw [hs] at e
    have e : (es.map fun e => (keyText e.key, e.hash)) = ks.map fun n => (n.str, PyData.keyHash w.params n.str) := Option.some.inj e
    have all : ∀ {l : List DictEntry} {ks : List N}, (l.all fun e => e.key.ctorIdx == 6) = true → (l.map fun e => (keyText e.key, e.hash)) = (ks.map fun n => (n.str, PyData.keyHash w.params n.str)) →
        (∀ en ∈ l, ∃ k : Key, (mixKind prog w).is k en.key = true ∧ en.hash = (mixKind prog w).hash k) ∧ ∀ k : N, (l.any fun en => (mixKind prog w).is (.s k) en.key) = ks.any fun m => decide (m = k) := fun {l} => by
      induction l with
      | nil => intro ks _ e; cases ks with
        | nil => exact ⟨fun _ m => (nomatch m), fun _ => rfl⟩
        | cons => cases e
      | cons en l ih => intro ks h3 e; cases ks with
        | nil => cases e
        | cons n ks =>
          obtain ⟨h3, h4⟩ := and_el h3
          obtain ⟨q1, q3⟩ := List.cons.inj e
          obtain ⟨q1, q2⟩ := Prod.mk.inj q1
          obtain ⟨i1, i2⟩ := ih h4 q3
          obtain ⟨ha, kk, vv⟩ := en
          cases kk with
          | str x t =>
            cases q1
            have is : (mixKind prog w).is (.s n) (.str n.str t) = true := key_is prog w (.s n) _ ⟨t, rfl⟩
            refine ⟨fun y m => ?_, fun k => ?_⟩
            · rcases List.mem_cons.mp m with rfl | m
              · exact ⟨.s n, is, q2⟩
              · exact i1 y m
            · rw [List.any_cons, List.any_cons, i2 k]
              refine congrArg (· || _) ?_
              refine (KeyKind.is_eq_decide is (.s k)).trans ?_
              exact decide_eq_decide.mpr ⟨fun q => by cases q; rfl, fun q => by rw [q]⟩
          | _ => cases h3
    obtain ⟨a1, a2⟩ := all q e
    refine ⟨_, ⟨_, _, ep, X _ _ ho, ⟨rfl, rfl, rfl⟩, rfl, fun en he => a1 en (Array.mem_toList_iff.mpr he), fun k => rfl⟩, fun k => ?_⟩
    rw [← any_keys, ← a2]
    unfold findBy
    rw [Option.isSome_map, List.find?_toArray]
    exact List.isSome_find? ..
end
end
section
theorem bi_boot (b : Bi) : bootBuiltins (Str.ofString b.text) = some b.val ∧ (Str.ofString b.text == ("__name__" : Str)) = false := by cases b <;> exact ⟨by kernel_rfl, by kernel_rfl⟩
theorem range_boot : bootBuiltins "range" = some (.type "range") ∧ bootBuiltins "bytearray" = some (.type "bytearray") := ⟨by kernel_rfl, by kernel_rfl⟩
theorem getD_ne {α : Type} {n : N} {l : List (N × List α)} (h : (look n l).getD [] ≠ []) : (n, (look n l).getD []) ∈ l := by
  cases e : look n l with
  | none => rw [e] at h; exact absurd rfl h
  | some x => exact look_mem e
theorem keysIn_mem {n : N} {l : List N} (h : keysIn n l = true) : n ∈ l := by
  induction l with
  | nil => cases h
  | cons m l ih =>
    rcases Bool.or_eq_true_iff.mp h with h | h
    · rw [Nat.eq_of_beq_eq_true h]; exact .head _
    · exact .tail _ (ih h)
section
variable {K : Lk} {hb : Heap} {mg mb : Str → Option Value} {prog : Program} {w : World}
theorem glb_el (X : K.In hb) (hm : (K mainGlobals).isSome = true) (G : hb.Ns mainGlobals mg) {n : N} (e : gref K n = true) : mg n.str = some (.ref (cadOf K n)) := by
  obtain ⟨v, hv, e⟩ := any_el e
  unfold cadOf
  rw [hv]
  exact (mgq X hm G _).symm.trans (hv.trans (congrArg some (isRef_el e)))
noncomputable abbrev cxOf (K : Lk) (prog : Program) (w : World) (hb : Heap) (lw : ∃ o, hb.get? cStatics = some o) (mg mb : Str → Option Value) : Cx := ⟨prog, w, hb, cadOf K, lw, mg, mb, fun k => nsOf K (cadOf K k), fun k => nsFind (csEs K k)⟩
theorem none_el {es : Array DictEntry} {x : Str} (e : (nf es.toList x).isNone = true) : nsFind es x = none := (nf_eq es x).symm.trans (Option.isNone_iff_eq_none.mp e)
theorem cls_ok {lw : ∃ o, hb.get? cStatics = some o} (X : K.In hb) (ef : fnsSee K = fnsWant) (es : fnsSt = true) {p : N × List N} (hp : attrsOf p.1 = p.2) (e : clsAll K p = true) : gref K p.1 = true ∧ ClsOK (cxOf K prog w hb lw mg mb) p.1 := by
  obtain ⟨e1, e⟩ := and_el e
  obtain ⟨e0, e1⟩ := and_el e1
  obtain ⟨e1, e2⟩ := and_el e1
  obtain ⟨e2, e3⟩ := and_el e2
  obtain ⟨e4, e⟩ := and_el e
  obtain ⟨e5, e⟩ := and_el e
  obtain ⟨e6, e7⟩ := and_el e
  have none := List.all_eq_true.mp e4
  refine ⟨e1, ⟨clsChk_el X e2, nsChk_el X e3⟩, none_el (none _ (.head _)), none_el (none _ (.tail _ (.head _))), none_el (none _ (.tail _ (.tail _ (.head _)))), fun n hn => none_el (List.all_eq_true.mp e5 n (keysIn_mem (hp ▸ hn))), hp ▸ of_decide_eq_true e6, fun m fn hf => ?_⟩
  obtain ⟨l, h1, h2⟩ := Option.bind_eq_some_iff.mp hf
  rw [h1] at e7
  obtain ⟨e8, e9⟩ := and_el (List.all_eq_true.mp e7 _ (look_mem h2))
  obtain ⟨v, hv, e9⟩ := any_el e9
  have F := fn_el (c := cxOf K prog w hb lw mg mb) X ef es (look_mem h1) (look_mem h2)
  have q : adr K p.1 m = addrOf v := by
    unfold adr
    rw [(Bool.not_eq_true' _).mp e0, hv]
    rfl
  rw [q] at F
  exact ⟨hp ▸ (Bool.not_eq_true' _).mp e8, _, (nf_eq _ _).symm.trans (hv.trans (congrArg some (isRef_el e9))), F⟩
theorem attr_all {P : N × List N → Prop} (h : ∀ p ∈ attrT, P p) (k : N) (hk : attrsOf k ≠ []) : P (k, attrsOf k) := h _ (getD_ne hk)
theorem ok_all (lw : ∃ o, hb.get? cStatics = some o) (ef : fnsSee K = fnsWant) (es : fnsSt = true) (e : chkAll K = true) (ht : topSee K = topWant w.params) (X : K.In hb) (G : hb.Ns mainGlobals mg) (Bn : hb.Ns builtinsNs mb) (Bb : ∀ x : Str, x ≠ "__name__" → mb x = bootBuiltins x) (lim : hb.NoLimit) : Ok (cxOf K prog w hb lw mg mb) := by
  obtain ⟨e1, e⟩ := and_el e
  obtain ⟨hm, e1⟩ := and_el e1
  obtain ⟨e2, e⟩ := and_el e
  obtain ⟨e2, e3⟩ := and_el e2
  obtain ⟨e4, e⟩ := and_el e
  obtain ⟨e5, e⟩ := and_el e
  obtain ⟨e6, e7⟩ := and_el e
  have cls : ∀ k, attrsOf k ≠ [] → gref K k = true ∧ ClsOK (cxOf K prog w hb lw mg mb) k := fun k hk => cls_ok X ef es rfl (attr_all (P := fun p => clsAll K p = true) (List.all_eq_true.mp e2) k hk)
  have no : ∀ {x : Str}, noGlob K x = true → mg x = none := fun q => (mgq X hm G _).symm.trans (Option.isNone_iff_eq_none.mp q)
  refine ⟨lim, G, fun f fn hf => ?_, fun k hk => glb_el X hm G (cls k hk).1, fun n d hd => ?_, fun n hn => ?_, fun b => no (List.all_eq_true.mp e4 b (by cases b <;> repeat (first | exact .head _ | apply List.Mem.tail))), no e5, no e6, Bn, fun b => (Bb _ (beq_eq_false_iff_ne.mp (bi_boot b).2)).trans (bi_boot b).1, (Bb _ (by decide +kernel)).trans range_boot.1, (Bb _ (by decide +kernel)).trans range_boot.2, fun k hk => (cls k hk).2⟩
  · obtain ⟨l, h1, h2⟩ := Option.bind_eq_some_iff.mp hf
    have e1 : ((look N.x_law fnT).getD []).all (fun p => gref K p.1) = true := e1
    rw [h1] at e1
    exact ⟨_, glb_el X hm G (List.all_eq_true.mp e1 _ (look_mem h2)), fn_el (c := cxOf K prog w hb lw mg mb) X ef es (look_mem h1) (look_mem h2)⟩
  · obtain ⟨v, hv, e8⟩ := any_el (List.all_eq_true.mp e3 _ (look_mem hd))
    exact ⟨v, (mgq X hm G _).symm.trans hv, repIn_el X d v e8⟩
  · have hm' := getD_ne hn
    obtain ⟨e8, e9⟩ := and_el (List.all_eq_true.mp e7 _ hm')
    have hs := List.map_inj_left.mp ht _ hm'
    obtain ⟨f, f1, f2⟩ := dictSee_el (prog := prog) (w := w) X hs
    exact ⟨_, f, glb_el X hm G e8, (Bool.not_eq_true' _).mp e9, f1, f2⟩
end
theorem fns_st : fnsSt = true := by kernel_rfl
end
section
theorem caller_good : Good (⟨.builtin "claim.caller" {}, none, none, [], none⟩ : Ctx) := ⟨by decide +kernel, fun x h => by cases h⟩
theorem threadG {prog : Program} {w : World} {t : Sem Fin} {s : Shared} {R : Result → Shared → Prop} (hreg : s.asleep)
    (h : wpG (model prog w) callerA t (fun fin s' => ∃ f, fin = .done f ∧ R (.ok f) s' ∧ leftWithCleanup s'.gens = false) s) :
    ∃ n r s' s'', runN (denote table) prog w n s ⟨t, .builtin "claim.caller" {}, default, []⟩ = .halted (outcomeOf r) s' ∧
      schedN (denote table) prog w n (.single s ⟨t, .builtin "claim.caller" {}, default, []⟩) = .halted (outcomeOf r) s' ∧ s'.forget = s''.forget ∧ R r s'' := by
  have hw : Sem.wp (model prog w) ⟨.builtin "claim.caller" {}, none, none, [], none⟩ t (Sem.finPost (model prog w) ⟨.builtin "claim.caller" {}, none, none, [], none⟩ fun r s' => R r s' ∧ leftWithCleanup s'.gens = false)
      (fun e _ s' => R (.error e) s' ∧ leftWithCleanup s'.gens = false) default s := by
    refine Sem.wp_mono _ _ t (fun fin p' s' h' => ?_) (fun _ _ _ h' => h'.elim) default s (h _ default caller_in caller_good)
    obtain ⟨f, rfl, hf⟩ := h'
    exact hf
  obtain ⟨n, r, s₁, s₂, hs, hn, hfo, hR⟩ := wp_halts_full (M := model prog w) (R := R) hreg hw
  exact ⟨n, r, s₂, s₁, hn, hs, hfo, hR⟩
theorem ends_as {r : Result} {A1 A5 : Prop} {A2 A3 : Value → Prop} {Gb H L : Addr → Obj → Prop} {F : Addr → Prop} {γ : Type} {C1 : Addr → Obj → Prop} {C2 : γ → Obj → Prop} {C3 : γ → Prop} {C4 : Addr → Prop}
    (h : (∃ v, r = .ok (.ret v) ∧ A1 ∧ A2 v ∧ A3 v ∧ (∀ b o, Gb b o → H b o) ∧ A5) ∨ ∃ e ob cls, r = .error (.ref e) ∧ C1 e ob ∧ C2 cls ob ∧ C3 cls ∧ C4 e ∧ ∀ b o, Gb b o → L b o) :
    (∃ v, outcomeOf r = .done (.ret v) ∧ A1 ∧ A2 v ∧ A3 v ∧ (∀ b o, Gb b o → F b → H b o) ∧ A5) ∨ ∃ e ob cls, outcomeOf r = .uncaught (.ref e) ∧ C1 e ob ∧ C2 cls ob ∧ C3 cls ∧ C4 e ∧ ∀ b o, Gb b o → F b → L b o :=
  h.imp (fun ⟨v, e, a, b, c, d, k⟩ => ⟨v, by rw [e]; rfl, a, b, c, fun x o g _ => d x o g, k⟩) fun ⟨e, ob, cls, q, a, b, c, d, k⟩ => ⟨e, ob, cls, by rw [q]; rfl, a, b, c, d, fun x o g _ => k x o g⟩
theorem callFromG {c : ClaimW} {tree : List Value → Sem Fin} {w : World} {s : Shared} {free : Addr → Prop} {gens : Prop} {kept : Heap → Prop} (hz : s.asleep) (hgens : s.gens = #[])
    (spec : ∀ args, c.pre args = true → WData.layableAll args = true → ∀ ord : List DictEntry → List DictEntry, (∀ l, (ord l).Perm l) →
      ∃ vs s₁, layAllW c.records (classAt s.heap) w.params ord args s = some (vs, s₁) ∧
        wpG (model c.prog w) callerA (tree vs) (fun fin s' => ∃ f, fin = .done f ∧ (c.Ends s args vs s₁ (.ok f) s' ∧ s'.os = s.os ∧ AllBare s'.gens ∧ kept s'.heap)) s₁) :
    c.CallFrom (fun vs => ⟨tree vs, .builtin "claim.caller" {}, default, []⟩) w free gens kept s := fun args hpre hlay ord hord => by
  obtain ⟨vs, s₁, hlaid, hcode⟩ := spec args hpre hlay ord hord
  have hl := (layAllW_rest _ _ _ hlaid).2.2.2
  obtain ⟨k, r, s', s'', hr, hs, hfo, hR⟩ := threadG (prog := c.prog) (w := w) (t := tree vs) (s := s₁) (R := fun r s' => c.Ends s args vs s₁ r s' ∧ s'.os = s.os ∧ kept s'.heap) (Shared.asleep_of_life hl hz)
    (wpG_mono hcode fun fin s' hf => hf.imp fun f h => ⟨h.1, ⟨h.2.1, h.2.2.1, h.2.2.2.2⟩, leftWithCleanup_false_of_bare h.2.2.2.1⟩)
  have hq := Shared.forget_eq hfo
  exact ⟨vs, s₁, hlaid, k, _, s', hs, ends_as (hR.1.congr hq.1), fun _ i x hx => (by rw [hgens] at hx; cases hx), hq.1 ▸ hR.2.2, congrArg Life.seen ((runN_life _ _ _ hr).trans hl), Shared.rest_eq (hq.2.2.2.1.trans hR.2.1)⟩
abbrev WalkB (q : Program) (loose : List Str) (XP : (Str → Option Value) → Heap → Prop) (YP : World → Heap → Prop) (r : RowW) (d : DefRec) (kwd : List (Str × PySem.Expr)) : Prop :=
  ∀ (w : World) (s₀ s₁ : Shared) (mg mb : Str → Option Value), Ground q loose r.records XP w s₀ mg mb s₁.heap → YP w s₁.heap → ∀ (a : Addr) (o : Obj) (pm cd doc dV kV : Value), s₁.heap.get? a = some o →
    o.data = .func { docDef d.name d.params d.body d.scope pm cd doc with defaults := dV, kwdefaults := kV } → s₁.heap.CodeRec cd d.name → Dflts mg s₁.heap d.params kwd dV kV → mg d.name = some (.ref a) → s₁.gens = #[] →
    ∀ (args : List WData) (vals : List Value) (as : List Addr), r.claim.pre args = true → WData.layableAll args = true → ReadsAllW r.records (classAt s₀.heap) s₁.heap vals args as → WellAll w.params s₁.heap vals args → (∀ a ∈ as, (a == sysModules) = false) →
      wpG (model r.prog w) callerA (PySem.call (.ref a) vals) (fun v s' => GoodWG r.claim (classAt s₀.heap) (ExcName.means s₀.heap) args s₁ (.ok (.ret v)) s') s₁
theorem holds_openG {r : OpenRow} {q : Program} {loose : List Str} {Xt : Shared → Bool} {XP : (Str → Option Value) → Heap → Prop} {α : Type} {Yf : Shared → α} {Ya : World → α} {YP : World → Heap → Prop} {d : DefRec} {kwd : List (Str × PySem.Expr)} {N : Nat}
    (left : LeftO r.prog q loose Xt Yf Ya N) (hY : ∀ w s, Yf s = Ya w → YP w s.heap) (hYk : ∀ w h h', YP w h → (∀ b o, h.get? b = some o → h'.get? b = some o) → YP w h')
    (hX : ∀ s, Xt s = true → XP (s.heap.nsMap mainGlobals) s.heap) (hXk : ∀ mg h h', XP mg h → (∀ b o, h.get? b = some o → h'.get? b = some o) → XP mg h')
    (hdef : _root_.PySem.W.defOf q r.name = some (d, kwd)) (hp : r.prog.theDef r.name = some (d.params, d.body, d.scope)) (hk : kwWritten? d.params.kwonlyargs d.params.kw_defaults = some kwd) (hRf : ∀ s, Xt s = true → RecFacts r.records s.heap) (hwr : (!r.writes || r.records.isEmpty) = true)
    (k1 : r.wellSaid = true) (ok : (chainsOk q && opensWell r.prog && (frees r.toRowW && r.within.isEmpty)) = true) (hb : r.prog.bare) (hw : r.toRowW.promised)
    (call : WalkB q loose XP YP r.toRowW d kwd) : r.Holds := by
  refine ⟨k1, hw, ?_⟩
  obtain ⟨ok, k5⟩ := Bool.and_eq_true_iff.mp ok
  obtain ⟨hch, o1⟩ := Bool.and_eq_true_iff.mp ok
  obtain ⟨k5, k6⟩ := Bool.and_eq_true_iff.mp k5
  obtain ⟨hsame, hu, ha, hap, hm⟩ := frees_parts k5
  have hwi : r.toRowW.claim.within = [] := List.isEmpty_iff.mp k6
  have hi := ident_freeW hu ha hap
  refine ⟨⟨hb, o1, by show List.map _ _ = []; rw [hm]; rfl⟩, hw.witness, fun w => ⟨(left.behind hX hch w).1, fun s' hs' => ?_⟩⟩
  obtain ⟨s₀, hf, hg0, s, hT, hz, hgens, hg, G0, y⟩ := (left.behind (XP := fun mg h => XP mg h ∧ RecFacts r.records h) (fun s hs => ⟨hX s hs, hRf s hs⟩) hch w).2 s' hs'
  have G1 : Ground q loose [] XP w s (s.heap.nsMap mainGlobals) (s.heap.nsMap builtinsNs) s.heap := ⟨G0.T, G0.B, G0.D, G0.TE, G0.TD, G0.W, G0.X.1, G0.cls, G0.has, G0.apart, G0.once, G0.K⟩
  have RF := G0.X.2
  refine ⟨s₀, hf, hg0, s, hT, fun n hn => ?_, RF.1, RF.2.1, ?_⟩
  · obtain rfl : n = r.name := by split at hn <;> simp_all
    exact pinned_of_view hg G1 hdef hp hk
  · have hgens : s.gens = #[] := Array.eq_empty_of_size_eq_zero (beq_iff_eq.mp hgens)
    have G : Ground q loose r.records XP w s _ _ s.heap := RF.ground G1
    refine callFromG (c := r.toRowW.claim) hz hgens fun args hpre hlay ord hord => ?_
    obtain ⟨⟨vs, s₁⟩, hlaid⟩ := Option.isSome_iff_exists.mp (layAllW_isSome (P := w.params) (ord := ord) G.has args r.toRowW.args s (pre_splitW hpre).1)
    have keeps := layAllW_keeps _ _ _ hlaid
    have hal := layAllW_rest _ _ _ hlaid
    obtain ⟨as, hrd, hin, hold⟩ := reads_layAllW hord _ _ _ hlaid hlay s₁.heap (fun _ _ e => e)
    have L : Laid r.toRowW.records w s s₁ args vs as := ⟨⟨ord, hord, hlaid⟩, hrd, hin, hold, keeps, hal.1.trans hgens, hal.2.2.1⟩
    have G₁ := G.keeps hXk keeps
    obtain ⟨a, o, pm, cd, doc, dV, kV, h1, h2, h3, h4, h5⟩ := G₁.fn hdef
    have key := call w s s₁ _ _ G₁ (hYk _ _ _ (hY w s y) keeps) a o pm cd doc dV kV h2 h3 h4 h5 (defOf_name hdef ▸ h1) L.gens args vs as hpre hlay L.reads L.well (L.low G.low)
    refine ⟨vs, s₁, hlaid, wpG_bind (wpG_of (wpAny_nsGet G₁.T.g ?_))⟩
    rw [h1]
    refine wpG_bind (wpG_mono key fun v s2 g => wpG_pure ⟨_, rfl, ?_⟩)
    obtain ⟨z1, z2, z3⟩ := g.laid (c := r.toRowW.claim) hsame hwi hi L
    exact ⟨z1, z2, z3, fun q => ⟨namesKept_of hT hg _ keeps g.2.1.old, noTable hwr q⟩⟩
end
section
set_option maxHeartbeats 2000000
theorem ins_some (o : Obj) : ∀ (t : BT) (a : Nat), (∀ i, i < a → (t.get i).isSome = true) → ((t.ins a o).get a).isSome = true
  | .nil, a, h => by
    cases a with
    | zero => rfl
    | succ a => exact absurd (h 0 (Nat.succ_pos a)) (by simp [BT.get])
  | .node v l r, a, h => by
    rw [BT.ins_node]
    by_cases ha : a = 0
    · subst ha; rfl
    · rw [if_neg ha]
      by_cases p : a % 2 = 1
      · rw [if_pos p, BT.get_node, if_neg ha, if_pos p]
        refine ins_some o l _ fun i hi => ?_
        have := h (2 * i + 1) (by omega)
        rw [BT.get_node, if_neg (by omega), if_pos (by omega), show (2 * i + 1) / 2 = i by omega] at this
        exact this
      · rw [if_neg p, BT.get_node, if_neg ha, if_neg p]
        refine ins_some o r _ fun i hi => ?_
        have := h (2 * i + 2) (by omega)
        rw [BT.get_node, if_neg (by omega), if_neg (by omega), show (2 * i + 2) / 2 - 1 = i by omega] at this
        exact this
noncomputable def ofL (l : List Obj) (x : BT × Nat) : BT × Nat := @List.rec Obj (fun _ => BT × Nat → BT × Nat) (fun x => x) (fun o _ ih x => ih (x.1.ins x.2 o, Nat.succ x.2)) l x
theorem ofL_ok (life : Life) : ∀ (l : List Obj) (t : BT) (n : Nat), (∀ i, i < n → (t.get i).isSome = true) → absHeap (ofL l (t, n)).1 (ofL l (t, n)).2 life = ⟨(absHeap t n life).objs ++ l.toArray, life⟩
  | [], t, n, _ => by
    show absHeap t n life = _
    rw [show ([] : List Obj).toArray = #[] from rfl, Array.append_empty]
    rfl
  | o :: l, t, n, h => by
    have g := ins_some o t n h
    show absHeap (ofL l (t.ins n o, n + 1)).1 (ofL l (t.ins n o, n + 1)).2 life = _
    rw [ofL_ok life l _ _ fun i hi => ?_, absHeap_ins g]
    · show Heap.mk _ _ = Heap.mk _ _
      congr 1
      show ((absHeap t n life).objs.push o) ++ l.toArray = _
      simp
    · rw [BT.get_ins o t n g]
      split
      · rfl
      · exact h i (by omega)
noncomputable def treed (s : Shared) : SharedT := ⟨(ofL s.heap.objs.toList (.nil, 0)).1, (ofL s.heap.objs.toList (.nil, 0)).2, s.heap.life, s.gens, s.drawn, s.toks, s.os⟩
theorem treed_abs (s : Shared) : (treed s).abs = s := by
  obtain ⟨⟨⟨l⟩, life⟩, gens, drawn, toks, os⟩ := s
  show Shared.mk (absHeap (ofL l (.nil, 0)).1 (ofL l (.nil, 0)).2 life) _ _ _ _ = _
  rw [ofL_ok life l .nil 0 fun i hi => absurd hi (Nat.not_lt_zero i)]
  simp [absHeap, BT.list]
  exact ⟨rfl, rfl, rfl, rfl⟩
noncomputable def aliveQ (o : Obj) : Option Obj := @Data.casesOn (fun _ => Obj → Option Obj) o.data some (fun _ => some) (fun _ _ => some) (fun _ _ => some) (fun _ _ _ => some) (fun _ _ => some) (fun _ => some) (fun _ => some) (fun _ => some) (fun _ => some) (fun _ => none) o
theorem aliveQ_eq (o : Obj) : aliveQ o = alive o := by obtain ⟨a, b, c, d⟩ := o; cases c <;> rfl
noncomputable def getQ (t : BT) : Nat → Option Obj := @BT.rec (fun _ => Nat → Option Obj) (fun _ => none) (fun v _ _ f g i => bif Nat.beq i 0 then aliveQ v else bif Nat.beq (Nat.mod i 2) 1 then f (Nat.div i 2) else g (Nat.sub (Nat.div i 2) 1)) t
theorem getQ_eq : ∀ (t : BT) (i : Nat), getQ t i = (t.get i).bind alive
  | .nil, _ => rfl
  | .node v l r, i => by
    show (bif Nat.beq i 0 then aliveQ v else bif Nat.beq (i % 2) 1 then getQ l (i / 2) else getQ r (i / 2 - 1)) = (match Nat.beq i 0 with | true => some v | false => match Nat.beq (i % 2) 1 with | true => l.get (i / 2) | false => r.get (i / 2 - 1)).bind alive
    rw [getQ_eq l, getQ_eq r, aliveQ_eq]
    cases Nat.beq i 0 <;> cases Nat.beq (i % 2) 1 <;> rfl
noncomputable def setQ (t : BT) : Nat → (Obj → Obj) → BT := @BT.rec (fun _ => Nat → (Obj → Obj) → BT) (fun _ _ => .nil) (fun v l r f g i h => bif Nat.beq i 0 then .node (h v) l r else bif Nat.beq (Nat.mod i 2) 1 then .node v (f (Nat.div i 2) h) r else .node v l (g (Nat.sub (Nat.div i 2) 1) h)) t
theorem setQ_eq : ∀ (t : BT) (i : Nat) (h : Obj → Obj), setQ t i h = t.set i h
  | .nil, _, _ => rfl
  | .node v l r, i, h => by
    show (bif Nat.beq i 0 then BT.node (h v) l r else bif Nat.beq (i % 2) 1 then .node v (setQ l (i / 2) h) r else .node v l (setQ r (i / 2 - 1) h)) = (match Nat.beq i 0 with | true => .node (h v) l r | false => match Nat.beq (i % 2) 1 with | true => .node v (l.set (i / 2) h) r | false => .node v l (r.set (i / 2 - 1) h))
    rw [setQ_eq l, setQ_eq r]
    cases Nat.beq i 0 <;> cases Nat.beq (i % 2) 1 <;> rfl
noncomputable def insQ (t : BT) : Nat → Obj → BT := @BT.rec (fun _ => Nat → Obj → BT) (fun _ o => .node o .nil .nil) (fun v l r f g i o => bif Nat.beq i 0 then .node o l r else bif Nat.beq (Nat.mod i 2) 1 then .node v (f (Nat.div i 2) o) r else .node v l (g (Nat.sub (Nat.div i 2) 1) o)) t
theorem insQ_eq : ∀ (t : BT) (i : Nat) (o : Obj), insQ t i o = t.ins i o
  | .nil, _, _ => rfl
  | .node v l r, i, o => by
    show (bif Nat.beq i 0 then BT.node o l r else bif Nat.beq (i % 2) 1 then .node v (insQ l (i / 2) o) r else .node v l (insQ r (i / 2 - 1) o)) = (match Nat.beq i 0 with | true => .node o l r | false => match Nat.beq (i % 2) 1 with | true => .node v (l.ins (i / 2) o) r | false => .node v l (r.ins (i / 2 - 1) o))
    rw [insQ_eq l, insQ_eq r]
    cases Nat.beq i 0 <;> cases Nat.beq (i % 2) 1 <;> rfl
noncomputable abbrev RT := SharedT → Thread → Option SharedT
noncomputable abbrev RB := RT → SharedT → Code → Pos → List Frame → Option SharedT
noncomputable def keptC (c code : Code) (l : List Value) : List Value := match c, code with
  | .builtin _ a, _ => unmarked a.refs
  | .call f a, .builtin .. | .call f a, .call .. => unmarked (if l.contains borrowed then a.refs else f :: a.refs)
  | _, _ => []
section
variable (den : Code → Sem Fin) (p : Program) (w : World) (ok : Thread → Bool) (st : SharedT → Thread → Option (SharedT × Thread)) (n₀ : Nat)
noncomputable def fbB (cur : Sem Fin) : RB := fun ih s c q fs => bif ok ⟨cur, c, q, fs⟩ then @Option.rec (SharedT × Thread) (fun _ => Option SharedT) none (fun r => ih r.1 r.2) (st s ⟨cur, c, q, fs⟩) else none
noncomputable def doneB (f : Flow) : RB := fun ih s c q fs => @List.casesOn Frame (fun _ => Option SharedT) fs (some s) fun fr r => @Frame.casesOn (fun _ => Option SharedT) fr (fun k _ _ _ c p _ => ih s ⟨k (.ok f), c, p, r⟩) fun _ _ _ _ _ => fbB ok st (.pure (.done f)) ih s c q fs
noncomputable def brs (cur : Sem Fin) : RB := @Sem.casesOn Fin (fun _ => RB) cur
  (fun f => @PySem.Fin.casesOn (fun _ => RB) f (doneB ok st) fun c => fbB ok st (.pure (PySem.Fin.again c)))
  (fun e => fbB ok st (.raise e)) (fun x => fbB ok st (.unsupported x)) (fun e => fbB ok st (.finish e))
  (fun _ k ih s c q fs => ih s ⟨k (), c, q, fs⟩)
  (fun q k ih s c _ fs => ih s ⟨k (), c, q, fs⟩)
  (fun a _ k ih s c q fs => bif Nat.blt a s.n then @Option.rec Obj (fun _ => Option SharedT) none (fun o => ih s ⟨k o, c, q, fs⟩) (getQ s.tree a) else none)
  (fun a x f k ih s c q fs => bif Nat.ble n₀ a && Nat.blt a s.n then @Option.rec Obj (fun _ => Option SharedT) none (fun _ => ih ⟨setQ s.tree a f, s.n, s.life, s.gens, s.drawn, s.toks, s.os⟩ ⟨k (), c, q, fs⟩) (getQ s.tree a) else fbB ok st (.update a x f k) ih s c q fs)
  (fun o k ih s c q fs => bif (getQ (insQ s.tree s.n o) s.n).isSome then ih ⟨insQ s.tree s.n o, Nat.succ s.n, s.life, s.gens, s.drawn, s.toks, s.os⟩ ⟨k s.n, c, q, fs⟩ else none)
  (fun a k => fbB ok st (.loadIfAlive a k))
  (fun _ k ih s c q fs => ih s ⟨k (), c, q, fs⟩)
  (fun a k => fbB ok st (.register a k))
  (fun k ih s c q fs => ih ⟨s.tree, s.n, s.life, s.gens, s.drawn, s.toks + 1, s.os⟩ ⟨k s.toks, c, q, fs⟩)
  (fun k ih s c q fs => ih s ⟨k ⟨p, w.params⟩, c, q, fs⟩)
  (fun a n k => fbB ok st (.choose a n k)) (fun r l k => fbB ok st (.os r l k))
  (fun c' h g l k ih s c q fs => ih s ⟨den c', c', q, .ret k h g l c q (keptC c' c l) :: fs⟩)
  (fun o k => fbB ok st (.handled o k)) (fun c k => fbB ok st (.newGen c k)) (fun g k => fbB ok st (.genState g k)) (fun g r l k => fbB ok st (.resume g r l k)) (fun v g l k => fbB ok st (.yield v g l k))
  (fun k => fbB ok st (.stack k)) (fun c k => fbB ok st (.fork c k)) (fun k => fbB ok st (.thread k)) (fun a t m l k => fbB ok st (.await a t m l k))
noncomputable def runQ (N : Nat) : RT := @Nat.rec (fun _ => RT) (fun _ _ => none) (fun _ ih s t => brs den p w ok st n₀ t.cur ih s t.code t.pos t.stack) N
end
section
variable {tb : String → Option Builtin} {p : Program} {w : World} {n₀ : Nat} {ann : Option Value}
theorem top_one {n : Nat} {s s' : Shared} {t t' : Thread} {r : Shared} (ht : through t = false) (hk : stepOk n₀ ann t = true) (hs : step (denote tb) p w s t = .go s' t') (h : topRun tb p w n₀ ann n s' t' = some r) : topRun tb p w n₀ ann (n + 1) s t = some r := by
  unfold topRun
  rw [ht, hk, hs]
  exact h
theorem getQ_el {t : BT} {a : Addr} {o : Obj} (e : getQ t a = some o) : ∃ x, t.get a = some x ∧ alive x = some o := Option.bind_eq_some_iff.mp ((getQ_eq t a).symm.trans e)
theorem fbB_ok {n : Nat} {ih : RT} (IH : ∀ s t r, ih s t = some r → topRun tb p w n₀ ann n s.abs t = some r.abs) {cur : Sem Fin} {s : SharedT} {c : Code} {q : Pos} {fs : List Frame} {r : SharedT} (ht : through ⟨cur, c, q, fs⟩ = false)
    (h : fbB (stepOk n₀ ann) (stepT (denote tb) p w) cur ih s c q fs = some r) : topRun tb p w n₀ ann (n + 1) s.abs ⟨cur, c, q, fs⟩ = some r.abs := by
  unfold fbB at h
  cases hk : stepOk n₀ ann ⟨cur, c, q, fs⟩ with
  | false => rw [hk] at h; cases h
  | true =>
    rw [hk] at h
    cases hs : stepT (denote tb) p w s ⟨cur, c, q, fs⟩ with
    | none => rw [hs] at h; cases h
    | some x =>
      rw [hs] at h
      exact top_one ht hk (stepT_spec (hs.trans (congrArg some (Prod.eta x).symm))) (IH _ _ _ h)
theorem brs_ok {n : Nat} {ih : RT} (IH : ∀ s t r, ih s t = some r → topRun tb p w n₀ ann n s.abs t = some r.abs) {cur : Sem Fin} {s : SharedT} {c : Code} {q : Pos} {fs : List Frame} {r : SharedT}
    (h : brs (denote tb) p w (stepOk n₀ ann) (stepT (denote tb) p w) n₀ cur ih s c q fs = some r) : topRun tb p w n₀ ann (n + 1) s.abs ⟨cur, c, q, fs⟩ = some r.abs := by
  have nt : ∀ {x : Bool}, x = false → (fs.isEmpty && x) = false := fun e => by rw [e, Bool.and_false]
  cases cur with
  | pure f =>
    cases f with
    | done f =>
      cases fs with
      | nil => cases h; rfl
      | cons fr rest => cases fr with
        | ret k hd g l c' q' kp => exact top_one rfl rfl (stepT_spec (s' := s) rfl) (IH _ _ _ h)
        | gen => exact fbB_ok IH rfl h
    | again => exact fbB_ok IH (nt rfl) h
  | rule | «at» | point | ask | fresh => exact top_one (nt rfl) rfl (stepT_spec rfl) (IH _ _ _ h)
  | call c' hd g l k => exact top_one (nt rfl) rfl (stepT_spec (s' := s) (by cases c' <;> cases c <;> rfl)) (IH _ _ _ h)
  | load a x k =>
    change (bif Nat.blt a s.n then @Option.rec Obj (fun _ => Option SharedT) none (fun o => ih s ⟨k o, c, q, fs⟩) (getQ s.tree a) else none) = some r at h
    cases e1 : Nat.blt a s.n with
    | false => rw [e1] at h; cases h
    | true =>
      rw [e1] at h
      change @Option.rec Obj (fun _ => Option SharedT) none (fun o => ih s ⟨k o, c, q, fs⟩) (getQ s.tree a) = some r at h
      cases e : getQ s.tree a with
      | none => rw [e] at h; cases h
      | some o =>
        rw [e] at h
        obtain ⟨x, e2, e3⟩ := getQ_el e
        exact top_one (nt rfl) rfl (stepT_spec (s' := s) (by simp only [stepT, e1, e2, e3])) (IH _ _ _ h)
  | update a x f k =>
    change (bif Nat.ble n₀ a && Nat.blt a s.n then @Option.rec Obj (fun _ => Option SharedT) none (fun _ => ih ⟨setQ s.tree a f, s.n, s.life, s.gens, s.drawn, s.toks, s.os⟩ ⟨k (), c, q, fs⟩) (getQ s.tree a) else fbB _ _ (.update a x f k) ih s c q fs) = some r at h
    cases b : Nat.ble n₀ a && Nat.blt a s.n with
    | false => rw [b] at h; exact fbB_ok IH (nt rfl) h
    | true =>
      rw [b, setQ_eq] at h
      obtain ⟨b, e1⟩ := and_el b
      change @Option.rec Obj (fun _ => Option SharedT) none (fun _ => ih _ _) (getQ s.tree a) = some r at h
      cases e : getQ s.tree a with
      | none => rw [e] at h; cases h
      | some o =>
        rw [e] at h
        obtain ⟨y, e2, e3⟩ := getQ_el e
        refine top_one (nt rfl) ?_ (stepT_spec (by simp only [stepT, e1, e2, e3])) (IH _ _ _ h)
        show (true && (Nat.ble n₀ a || _ || _ || _)) = true
        rw [b]; rfl
  | alloc o k =>
    change (bif (getQ (insQ s.tree s.n o) s.n).isSome then ih ⟨insQ s.tree s.n o, s.n + 1, s.life, s.gens, s.drawn, s.toks, s.os⟩ _ else none) = some r at h
    rw [insQ_eq] at h
    cases e : (getQ (s.tree.ins s.n o) s.n).isSome with
    | false => rw [e] at h; cases h
    | true =>
      rw [e] at h
      have e' : ((s.tree.ins s.n o).get s.n).isSome = true := by
        obtain ⟨y, e⟩ := Option.isSome_iff_exists.mp e
        obtain ⟨x, e2, _⟩ := getQ_el e
        rw [e2]; rfl
      exact top_one (nt rfl) rfl (stepT_spec (by simp only [stepT, e'])) (IH _ _ _ h)
  | _ => exact fbB_ok IH (nt rfl) h
theorem runQ_ok : ∀ {n : Nat} {s s' : SharedT} {t : Thread}, runQ (denote tb) p w (stepOk n₀ ann) (stepT (denote tb) p w) n₀ n s t = some s' → topRun tb p w n₀ ann n s.abs t = some s'.abs
  | 0, _, _, _, h => by cases h
  | _ + 1, _, _, _, h => brs_ok (fun _ _ _ => runQ_ok) h
end
noncomputable def memQ (x : Str) (l : List Str) : Bool := @List.rec Str (fun _ => Bool) false (fun y _ ih => bif sQ x y then true else ih) l
theorem memQ_eq (x : Str) (l : List Str) : memQ x l = l.contains x := by
  induction l with
  | nil => rfl
  | cons y l ih =>
    show (bif sQ x y then true else memQ x l) = _
    rw [List.contains_cons, ih, sQ_eq]
    show _ = (decide (x = y) || _)
    cases decide (x = y) <;> rfl
noncomputable def nbQ (p : Program) (h : Heap) : Bool := h.isNs mainGlobals && (h.nsKeys mainGlobals).all fun k => memQ k startupNames || memQ k p.boundNames
theorem nbQ_eq : namesBound = nbQ := by
  funext p h
  unfold nbQ namesBound
  simp only [memQ_eq]
noncomputable def endsX (nb : Program → Heap → Bool) (ie : (String → Option Builtin) → Program → World → Nat → Shared → Thread → Option Shared) (fm : Program → Shared → Option Shared) (st : (Code → Sem Fin) → Program → World → SharedT → Thread → Option (SharedT × Thread)) (ok : Nat → Option Value → Thread → Bool)
    (den : (String → Option Builtin) → Code → Sem Fin) (tb : String → Option Builtin) (p : Program) (w : World) (N : Nat) : Option SharedT :=
  (ie tb (opening p) w N (start (opening p)).1 (start (opening p)).2).bind fun s => (fm p s).bind fun s₀ => match s₀.heap.isNs mainGlobals && s₀.gens.size == 0 with
  | true => (runQ (den tb) p w (ok s₀.heap.objs.size (s₀.heap.nsMap mainGlobals "__annotations__")) (st (den tb) p w) s₀.heap.objs.size N (treed s₀) (topStub p)).bind fun s₁ =>
      match staticsOk (importedModules p.main.body) s₀.heap s₁.abs.heap && nb p s₁.abs.heap && gensDone s₁.abs && laidKept s₀.heap s₁.abs.heap with
      | true => some s₁
      | false => none
  | false => none
theorem endsX_ok {tb : String → Option Builtin} {p : Program} {w : World} {N : Nat} {s : SharedT} (h : endsX namesBound importEnds fenceModules? stepT stepOk denote tb p w N = some s) : openEnds tb p w N = some s.abs := by
  unfold endsX at h
  obtain ⟨s1, h1, h⟩ := Option.bind_eq_some_iff.mp h
  obtain ⟨s0, h2, h⟩ := Option.bind_eq_some_iff.mp h
  unfold openEnds fencedOpening topFrom
  rw [h1]
  dsimp only [Option.bind_some]
  rw [h2]
  dsimp only [Option.bind_some]
  cases e : s0.heap.isNs mainGlobals && s0.gens.size == 0 with
  | false => rw [e] at h; cases h
  | true =>
    rw [e] at h
    obtain ⟨s2, h3, h⟩ := Option.bind_eq_some_iff.mp h
    have := runQ_ok h3
    rw [treed_abs] at this
    dsimp only
    rw [this]
    dsimp only [Option.bind_some]
    cases q : staticsOk (importedModules p.main.body) s0.heap s2.abs.heap && namesBound p s2.abs.heap && gensDone s2.abs && laidKept s0.heap s2.abs.heap with
    | false => rw [q] at h; cases h
    | true => rw [q] at h; cases h; rfl
noncomputable def endsQ (p : Program) (w : World) (N : Nat) : Option SharedT :=
  endsX nbQ Fast.tw10274390034422433532 Fast.tw14289696077712309145 Fast.tw10156331382660048174 Fast.tw6613529449190102663 Fast.tw11892475500146522536 Fast.tw14364793385576792824 p w N
theorem endsQ_ok {p : Program} {w : World} {N : Nat} {s : SharedT} (h : endsQ p w N = some s) : openEnds treeTable p w N = some s.abs := by
  unfold endsQ at h
  rw [← nbQ_eq, ← Fast.te10274390034422433532, ← Fast.te14289696077712309145, ← Fast.te10156331382660048174, ← Fast.te6613529449190102663, ← Fast.te11892475500146522536, ← Fast.te14364793385576792824] at h
  exact endsX_ok h
abbrev pw : Program := PySem.Challenge.pw_no0088_01
noncomputable def qv : Program := { pw with main := { pw.main with body := pw.main.body.drop 111 } }
noncomputable def looseN : List Str := pw.boundNames.filter fun n => !(n == "law")
structure HSays (w : World) (h : Heap) : Prop where
  h : ∃ K : Lk, K.In h ∧ fnsSee K = fnsWant ∧ chkAll K = true ∧ topSee K = topWant w.params
noncomputable def xt (s : Shared) : Bool := xlAt qv [] s && recOk [] s
noncomputable def sees (s : SharedT) := (Fast.tw4187177175401517315 qv looseN (importedModules pw.main.body) xt true s.abs, fnsSee (tget s), chkAll (tget s), topSee (tget s))
noncomputable def good (w : World) := (openGood qv looseN, fnsWant, true, topWant w.params)
noncomputable abbrev lw : OpenLaw := PySem.Challenge.rw_no0088_01
theorem said1 : namesResolve lw.row.prog = true := by
  rw [Fast.te8377067652309620493]; kernel_rfl
theorem said2 : noRoadLSs { strict := !(importedModules lw.row.prog.main.body).all cThrough.contains, foot := none, bare := (["vars", "dir", "locals"] : List Str).filter (readsOut lw.row.prog lw.row.prog.main.body) } lw.row.prog.main.body = true := by
  rw [Fast.te8326940854005059898, Fast.te13343964577679436407]; kernel_rfl
theorem said3 : (namesMeet lw.row.prog lw.row.prog.main.body fun _ n => attrL n) = true := by
  rw [Fast.te17119622794617984870, Fast.te17868728402115742887]; kernel_rfl
theorem said4 : (lw.bound'.all fun n => !builtinNamed n || lw.about == [n] || !lw.reads n) = true := by
  rw [Fast.te797321630700447069, Fast.te6984425678791042302]; kernel_rfl
theorem said5 : (namesMeet lw.prog lw.above fun _ n => !lw.own.contains n) = true := by
  rw [Fast.te17119622794617984870, Fast.te10792542408131684335]; kernel_rfl
theorem said6 : noRoadLSs { strict := true, foot := some lw.bound', writes := lw.writes, may := lw.may } lw.footing = true := by
  rw [Fast.te8326940854005059898, Fast.te797321630700447069, Fast.te9572597257264208301]; kernel_rfl
theorem said7 : (lw.row.prog.boundNames.all fun n => !worldNames.contains n) = true := by
  rw [Fast.te18344453789297297638, Fast.te14412699480532031325]; kernel_rfl
theorem said8 : lw.namesIt = true := by
  rw [Fast.te16286561074155671207]; kernel_rfl
theorem law_said : PySem.Challenge.rw_no0088_01.wellSaid = true := by
  unfold OpenLaw.wellSaid OpenRow.wellSaid OpenRow.partSaid looksOpen
  simp only [Bool.and_eq_true]
  and_intros
  all_goals first | with_reducible exact said1 | with_reducible exact said2 | with_reducible exact said3 | with_reducible exact said4 | with_reducible exact said5 | with_reducible exact said6 | with_reducible exact said7 | with_reducible exact said8 | kernel_rfl
theorem ends0 (w : World) : (endsQ pw (w.withFollow "special-get-raises" false) 11622).map sees = some (good (w.withFollow "special-get-raises" false)) := by kernel_rfl
theorem ends1 (w : World) : (endsQ pw (w.withFollow "special-get-raises" true) 11622).map sees = some (good (w.withFollow "special-get-raises" true)) := by kernel_rfl
theorem ends_all (w : World) : ∃ s, openEnds treeTable pw w 11622 = some s ∧ openSeen qv looseN (importedModules pw.main.body) xt true s = openGood qv looseN ∧ HSays w s.heap := by
  have h : ∀ b, (endsQ pw (w.withFollow "special-get-raises" b) 11622).map sees = some (good (w.withFollow "special-get-raises" b)) := fun b => b.casesOn (ends0 w) (ends1 w)
  have := h (w.params.followText "special-get-raises")
  rw [World.withFollow_self w] at this
  obtain ⟨s, a, b⟩ := Option.map_eq_some_iff.mp this
  exact ⟨s.abs, endsQ_ok a, Fast.te4187177175401517315 ▸ congrArg (·.1) b, ⟨tget s, tget_in s, congrArg (·.2.1) b, congrArg (·.2.2.1) b, congrArg (·.2.2.2) b⟩⟩
noncomputable def hkObs (s : Shared) : World → Prop := fun w => HSays w s.heap
noncomputable def hkVal (w : World) : World → Prop := fun w' => ∃ s, openEnds treeTable pw w 11622 = some s ∧ HSays w' s.heap
theorem says_of (w : World) (s : Shared) (e : hkObs s = hkVal w) : HSays w s.heap := (congrFun e w).mpr (let ⟨s, a, _, b⟩ := ends_all w; ⟨s, a, b⟩)
theorem says_keeps (w : World) (h h' : Heap) (x : HSays w h) (k : ∀ b o, h.get? b = some o → h'.get? b = some o) : HSays w h' := let ⟨K, a, b⟩ := x.h; ⟨K, fun a' o e => k _ _ (a a' o e), b⟩
theorem left_ok : LeftO pw qv looseN xt hkObs hkVal 11622 true := fun w => by
  obtain ⟨s, a, b, c⟩ := ends_all w
  rw [a]
  refine congrArg some (congr (congrArg Prod.mk b) (funext fun w' => propext ⟨fun h => ⟨s, a, h⟩, fun ⟨s', a', h⟩ => ?_⟩))
  rw [a] at a'; cases a'; exact h
end
section
theorem wints_of {R : WRecords} {P : Params} {h : Heap} {X : Addr → Prop} (nx : ∀ a, ¬ X a) : ∀ {vs : List Value} {xs : List WData}, WellAll P h vs xs → WShape.hasItems R xs .int = true → ∃ l : List Int, xs = l.map .int ∧ Reps X h (l.map .int) vs
  | _, _, .nil, _ => ⟨[], rfl, rfl⟩
  | _, _, .cons a b, e => by
    simp only [WShape.hasItems, Bool.and_eq_true] at e
    obtain ⟨l, rfl, Rl⟩ := wints_of nx b e.2
    cases a <;> first | (simp [WShape.has, WShape.arms] at e; done) | skip
    rename_i i t
    exact ⟨i :: l, rfl, _, _, rfl, ⟨t, rfl⟩, Rl⟩
theorem law_args {w : World} {h : Heap} {X : Addr → Prop} (nx : ∀ a, ¬ X a) {args : List WData} {vals : List Value} (hpre : PySem.Challenge.rw_no0088_01.row.toRowW.claim.pre args = true) (hwl : WellAll w.params h vals args) :
    ∃ (l : List Int) (v : Value), l.length ≤ 63 ∧ vals = [v] ∧ Rep X h (.lst (l.map .int)) v := by
  obtain ⟨h1, h2⟩ := pre_splitW hpre
  obtain ⟨d, r, rfl, h3, h4⟩ := hasAllW_cons h1
  obtain rfl := hasAllW_nil h4
  cases hwl with
  | @cons v vs _ _ a b =>
    cases b
    cases a <;> first | (simp [WShape.has, WShape.arms, PySem.Challenge.rw_no0088_01, OpenLaw.row] at h3; done) | skip
    rename_i ad us xs ho hw
    have h5 : WShape.hasItems [] xs .int = true := by simpa [WShape.has, WShape.arms, PySem.Challenge.rw_no0088_01, OpenLaw.row] using h3
    obtain ⟨l, rfl, Rl⟩ := wints_of (X := X) nx hw h5
    refine ⟨l, _, ?_, rfl, ad, _, rfl, ⟨0, ho⟩, nx _, Rl⟩
    revert h2
    clear h1 h3 h4 h5 hpre hw
    show (OpenLaw.pre PySem.Challenge.rw_no0088_01).holds [] _ = true → _
    simp only [OpenLaw.pre, PySem.Challenge.rw_no0088_01]
    simp [WTm.holds, WTm.value]
    rw [show less? (WData.int 63) (WData.int (l.length : Int)) = some (decide ((63 : Int) < l.length)) from rfl]
    by_cases q : (63 : Int) < l.length
    · rw [decide_eq_true q]; intro e; cases e
    · intro _; omega
theorem law_holds (n : Nat) (hn : n ≤ 300) (spec : ∀ l : List Int, l.length ≤ 63 → Call (callF (n + 1)) N.x_law N.x_law [.d (.lst (l.map .int))] [] fun v _ => v = .d (.bool true)) : PySem.Challenge.rw_no0088_01.Holds := by
  refine holds_law law_said fun said => ?_
  refine holds_openG (r := PySem.Challenge.rw_no0088_01.row) (q := qv) (loose := looseN) (Xt := xt) (XP := XL qv []) (Yf := hkObs) (Ya := hkVal) (YP := HSays) (N := 11622) left_ok says_of says_keeps (fun s e => xl_of s (Bool.and_eq_true_iff.mp e).1) XL.keeps (by rfl) (by rfl) (by rfl)
    (fun s e => recFacts_of (Bool.and_eq_true_iff.mp e).2) rfl said (by decide +kernel) ⟨rfl, rfl, rfl, rfl, rfl, by decide +kernel⟩ ?hw ?hc
  case hw => w_witness2
  case hc =>
    intro w s₀ s₁ mg mb G Y a o pm cd doc dV kV ho hd' hcd hD hmg hg args vals as hpre hlay hrd hwl hlo
    obtain ⟨Kf, X, Ef, Ck, Ht⟩ := HSays.h Y
    obtain ⟨mc, lc, _⟩ := G.T.nolimit
    have lw : ∃ o, s₁.heap.get? cStatics = some o := let ⟨o, _, _, e, _⟩ := lc; ⟨o, e⟩
    have K := ok_all (prog := PySem.Challenge.rw_no0088_01.row.toRowW.prog) lw Ef fns_st Ck Ht X G.T.g G.T.b G.T.builtins G.T.nolimit
    obtain ⟨l, v, hl, rfl, R⟩ := law_args (X := Xs [] fun _ => False) (fun a m => m.elim (fun ⟨p, q, _⟩ => nomatch q) id) hpre hwl
    obtain ⟨a', h1, F⟩ := K.fn N.x_law f_law rfl
    have h2 : a' = a := by
      have : mg N.x_law.str = some (.ref a) := hmg
      have h3 : mg N.x_law.str = some (.ref a') := h1
      rw [h3] at this; cases this; rfl
    subst h2
    refine callS K (n + 1) N.x_law N.x_law f_law a' rfl F callerA (fun _ => False) ⟨[], [], s₁⟩ [.d (.lst (l.map .int))] [v] _ _ ⟨rfl, ?_, ?_⟩ ⟨fun _ _ e => e, rfl, fun i p x e => (nomatch e), .nil, fun _ z => z.elim, fun a ⟨p, q, _⟩ => (nomatch q), fun _ z => z.elim, fun _ z => z.elim, fun p q => (nomatch q)⟩ ⟨v, [], rfl, R, rfl⟩ (spec l hl).1 fun w' v' σ' x I' R' hv => ?_
    · show 1 + claimMargin + 2 * (n + 1) + 1 < recursionLimit
      rw [show claimMargin = 300 from rfl, show recursionLimit = 1000 from rfl]; omega
    · show 4 + 10 * (n + 1) + 13 < cLine
      rw [show cLine = 9900 from rfl]; omega
    · subst hv
      have R' : w' = .bool true := R'
      subst R'
      have hos : σ'.s.os = s₁.os := by rw [x.sh]
      have hgn : σ'.s.gens = s₁.gens := by rw [x.sh]
      refine ⟨.inl ⟨_, .bool true, [], rfl, fun _ => rfl, .bool true, ?_, fun _ => ⟨List.nodup_nil, fun _ m => by cases m⟩⟩, OldK.of_keep I'.base, hos, AllBare.of_eq (hgn.trans hg)⟩
      simp [RowW.claim, OpenLaw.row, WTm.holds, WTm.value, same, PySem.Challenge.rw_no0088_01, WShape.has, WShape.arms]
end
section
theorem nm {α : Type} {P : α → Prop} : ∀ x ∈ ([] : List α), P x := fun _ m => absurd m List.not_mem_nil
section
variable {a b c d : Int}
theorem nl (h : ¬ a < b) : b ≤ a := Int.not_lt.mp h
theorem nle (h : ¬ a ≤ b) : b < a := Int.not_le.mp h
theorem ln (h : b ≤ a) : ¬ a < b := Int.not_lt.mpr h
theorem lnl (h : b < a) : ¬ a ≤ b := Int.not_le.mpr h
theorem lle (h : a < b) : a ≤ b := Int.le_of_lt h
theorem ltt (h : a < b) (k : b < c) : a < c := Int.lt_trans h k
theorem lelt (h : a ≤ b) (k : b < c) : a < c := Int.lt_of_le_of_lt h k
theorem ltle (h : a < b) (k : b ≤ c) : a < c := Int.lt_of_lt_of_le h k
theorem let' (h : a ≤ b) (k : b ≤ c) : a ≤ c := Int.le_trans h k
theorem mxl : a ≤ max a b := Int.le_max_left a b
theorem mxr : b ≤ max a b := Int.le_max_right a b
theorem mnl : min a b ≤ a := Int.min_le_left a b
theorem mnr : min a b ≤ b := Int.min_le_right a b
theorem mxle (h : a ≤ c) (k : b ≤ c) : max a b ≤ c := Int.max_le.mpr ⟨h, k⟩
theorem mxlt (h : a < c) (k : b < c) : max a b < c := Int.max_lt.mpr ⟨h, k⟩
theorem lemn (h : c ≤ a) (k : c ≤ b) : c ≤ min a b := Int.le_min.mpr ⟨h, k⟩
theorem ltmn (h : c < a) (k : c < b) : c < min a b := Int.lt_min.mpr ⟨h, k⟩
theorem ltmx (h : c < max a b) (k : a ≤ c) : c < b := nle fun q => ln (mxle k q) h
theorem mnle (h : min a b ≤ c) (k : c < a) : b ≤ c := nl fun q => ln h (ltmn k q)
theorem mxm (h : a ≤ c) (k : b ≤ d) : max a b ≤ max c d := mxle (let' h mxl) (let' k mxr)
end
section
variable {s : Store} {i j : Nat} {c d c0 : Cell}
theorem ons {α : Type} {o : Option α} {P : α → Prop} {z : α} (h : o = some z) (k : P z) : @Option.rec α (fun _ => Prop) False P o := by rw [h]; exact k
theorem br {c : Prop} [Decidable c] {A B : Prop} (h1 : c → A) (h2 : ¬ c → B) : @Bool.rec (fun _ => Prop) B A (decide c) := by
  by_cases h : c
  · rw [decide_eq_true h]; exact h1 h
  · rw [decide_eq_false h]; exact h2 h
theorem br_t {c : Prop} [Decidable c] {A B : Prop} (h : c) (k : A) : @Bool.rec (fun _ => Prop) B A (decide c) := by rw [decide_eq_true h]; exact k
theorem br_f {c : Prop} [Decidable c] {A B : Prop} (h : ¬ c) (k : B) : @Bool.rec (fun _ => Prop) B A (decide c) := by rw [decide_eq_false h]; exact k
theorem brn {c : Prop} [Decidable c] {A B : Prop} (h1 : ¬ c → A) (h2 : c → B) : @Bool.rec (fun _ => Prop) B A (!decide c) := by
  by_cases h : c
  · rw [decide_eq_true h]; exact h2 h
  · rw [decide_eq_false h]; exact h1 h
theorem brn_t {c : Prop} [Decidable c] {A B : Prop} (h : c) (k : B) : @Bool.rec (fun _ => Prop) B A (!decide c) := by rw [decide_eq_true h]; exact k
theorem brn_f {c : Prop} [Decidable c] {A B : Prop} (h : ¬ c) (k : A) : @Bool.rec (fun _ => Prop) B A (!decide c) := by rw [decide_eq_false h]; exact k
theorem brB {b : Bool} {A B : Prop} (h1 : b = true → A) (h2 : b = false → B) : @Bool.rec (fun _ => Prop) B A b := by cases b; exact h2 rfl; exact h1 rfl
theorem gs_self (h : s[i]? = some c0) : (s.set i c)[i]? = some c := by rw [List.getElem?_set_self (List.getElem?_eq_some_iff.mp h).1]
theorem gs_ne (n : j ≠ i) (h : s[i]? = some c0) : (s.set j c)[i]? = some c0 := by rw [List.getElem?_set_ne n]; exact h
theorem set_same (h : s[i]? = some c) : s.set i c = s := by
  obtain ⟨hi, e⟩ := List.getElem?_eq_some_iff.mp h
  rw [← e]; exact List.set_getElem_self hi
theorem q_same {Q : Store → Prop} (h : s[i]? = some c) (e : d = c) (k : Q s) : Q (s.set i d) := by rw [e, set_same h]; exact k
theorem q_set {Q : Store → Prop} (k : Q (s.set i d)) : Q ((s.set i c).set i d) := by rw [List.set_set]; exact k
theorem q_set2 {Q : Store → Prop} {e : Cell} (k : Q (s.set i e)) : Q (((s.set i c).set i d).set i e) := q_set (s := s.set i c) (q_set k)
end
section
variable {α A J : Type} {g : α → D} {f : D → Slots → OO → Store → K → Prop} {Q : K}
theorem for_st (sl : A → J → Slots) (ow : A → OO) (st : A → Store) (I : List α → A → Prop) (h0 : ∀ a j, I [] a → Q (sl a j) (ow a) (st a)) (hs : ∀ x l (k : K), (∀ a j, I l a → k (sl a j) (ow a) (st a)) → ∀ a j, I (x :: l) a → f (g x) (sl a j) (ow a) (st a) k)
    {l : List α} {a : A} {j : J} (hi : I l a) : For f (l.map g) (sl a j) (ow a) (st a) Q := by
  refine ⟨?_⟩
  induction l generalizing a j with
  | nil => exact h0 a j hi
  | cons x l ih => exact hs x l _ (fun _ _ h => ih h) a j hi
end
section
variable {f : D → Store → (Option D → Store → Prop) → Prop} {l : List D} {s : Store} {P : List D → Store → Prop}
theorem cmp_filt {g : D → Option D} (h : ∀ d ∈ l, ∀ k : Option D → Store → Prop, k (g d) s → f d s k) (k : P (l.filterMap g) s) : Cmp f l s P := by
  refine ⟨?_⟩
  induction l generalizing P with
  | nil => exact k
  | cons d l ih =>
    refine h d (.head _) _ (ih (fun d m => h d (.tail _ m)) ?_)
    rw [List.filterMap_cons] at k
    cases e : g d <;> rw [e] at k <;> exact k
end
theorem cmp_map {α : Type} {f : D → Store → (Option D → Store → Prop) → Prop} {s : Store} {P : List D → Store → Prop} {l : List α} {g0 g1 : α → D} (h : ∀ a ∈ l, ∀ k : Option D → Store → Prop, k (some (g1 a)) s → f (g0 a) s k) (k : P (l.map g1) s) : Cmp f (l.map g0) s P := by
  refine ⟨?_⟩
  induction l generalizing P with
  | nil => exact k
  | cons a l ih => exact h a (.head _) _ (ih (fun a m => h a (.tail _ m)) k)
end
section
abbrev Sp := Int × Int
noncomputable def spT (p : Sp) : D := .tup [.int p.1, .int p.2]
noncomputable def spD (l : List Sp) : D := .lst (l.map spT)
noncomputable def cutA (lo hi : Int) : List Sp → List Sp
  | [] => []
  | p :: r => (if p.1 < min p.2 lo then [(p.1, min p.2 lo)] else []) ++ ((if max p.1 hi < p.2 then [(max p.1 hi, p.2)] else []) ++ cutA lo hi r)
noncomputable def addS : List Sp → Int → Int → List Sp
  | [] => fun lo hi => [(lo, hi)]
  | p :: r => fun lo hi => if p.2 < lo then p :: addS r lo hi else if hi < p.1 then (lo, hi) :: p :: r else addS r (min lo p.1) (max hi p.2)
noncomputable def addT (d : Bool) (l : List Sp) (lo hi : Int) : List Sp := @Bool.rec (fun _ => List Sp) (addS l lo hi) l d
def Ch (b : Int) : List Sp → Int → Prop
  | [] => fun a => a ≤ b
  | p :: r => fun a => a < p.1 ∧ p.1 < p.2 ∧ Ch b r p.2
def Mem (x : Int) : List Sp → Prop
  | [] => False
  | p :: r => (p.1 ≤ x ∧ x < p.2) ∨ Mem x r
def Has (lo hi : Int) : List Sp → Prop
  | [] => False
  | p :: r => (p.1 ≤ lo ∧ hi ≤ p.2) ∨ Has lo hi r
section
variable {α β : Type} {acc R : List β} {d : β} {l : List β}
theorem ap1 (e : acc ++ d :: l = R) : (acc ++ [d]) ++ l = R := (List.append_assoc acc [d] l).trans e
theorem lt_push {m : Nat} (hR : R.length ≤ m) (e : (acc ++ [d]) ++ l = R) : acc.length < m := by
  subst e
  rw [List.append_assoc, List.length_append] at hR
  exact Nat.lt_of_lt_of_le (Nat.lt_add_of_pos_right (Nat.succ_pos _)) hR
end
section
variable {acc R : List D} {c : Prop} [Decidable c] {x : Sp} {l : List Sp}
theorem opt1 (h : c) (e : acc ++ ((if c then [x] else []) ++ l).map spT = R) : (acc ++ [spT x]) ++ l.map spT = R := by rw [if_pos h] at e; exact ap1 e
theorem opt0 (h : ¬ c) (e : acc ++ ((if c then [x] else []) ++ l).map spT = R) : acc ++ l.map spT = R := by rw [if_neg h] at e; exact e
end
section
variable {l : List Sp} {lo hi b a : Int}
theorem Ch.ab (h : Ch b l a) : a ≤ b := by
  induction l generalizing a with
  | nil => exact h
  | cons p r ih => exact let' (lle (ltt h.1 h.2.1)) (ih h.2.2)
theorem Ch.mono {a' b' : Int} (h : Ch b l a) (ha : a' ≤ a) (hb : b ≤ b') : Ch b' l a' := by
  induction l generalizing a a' with
  | nil => exact let' ha (let' h hb)
  | cons p r ih => exact ⟨lelt ha h.1, h.2.1, ih h.2.2 (Int.le_refl _)⟩
theorem Ch.len (h : Ch b l a) : (l.length : Int) + a ≤ b := by
  induction l generalizing a with
  | nil => exact (Int.zero_add a).symm ▸ h
  | cons p r ih => exact let' (Int.le_of_eq (Int.add_assoc r.length 1 a)) (let' (Int.add_le_add_left (Int.add_comm a 1 ▸ Int.add_one_le_of_lt (ltt h.1 h.2.1)) _) (ih h.2.2))
theorem Ch.lm (h : Ch b l a) (hb : b ≤ 100 + a) : l.length ≤ 100 := Int.ofNat_le.mp (Int.le_of_add_le_add_right (let' h.len hb))
theorem len_opt {c : Prop} [Decidable c] {x : Sp} {m : Nat} (h : l.length ≤ m) : ((if c then [x] else []) ++ l).length ≤ m + 1 := by
  by_cases q : c
  · rw [if_pos q]; exact Nat.succ_le_succ h
  · rw [if_neg q]; exact Nat.le_succ_of_le h
theorem cutA_len : (cutA lo hi l).length ≤ 2 * l.length := by
  induction l with
  | nil => exact Nat.le_refl _
  | cons p r ih => exact len_opt (len_opt ih)
theorem addS_len : (addS l lo hi).length ≤ l.length + 1 := by
  induction l generalizing lo hi with
  | nil => exact Nat.le_refl _
  | cons p r ih =>
    show (if p.2 < lo then _ else if hi < p.1 then _ else _ : List Sp).length ≤ _
    by_cases c : p.2 < lo
    · rw [if_pos c]; exact Nat.succ_le_succ ih
    · rw [if_neg c]
      by_cases d : hi < p.1
      · rw [if_pos d]; exact Nat.le_refl _
      · rw [if_neg d]; exact Nat.le_succ_of_le ih
theorem Ch.mem {x : Int} (h : Ch b l a) (m : Mem x l) : a < x ∧ x < b := by
  induction l generalizing a with
  | nil => exact m.elim
  | cons p r ih => exact m.elim (fun m => ⟨ltle h.1 m.1, ltle m.2 h.2.2.ab⟩) fun m => have := ih h.2.2 m; ⟨ltt (ltt h.1 h.2.1) this.1, this.2⟩
theorem Ch.opt {c : Prop} [Decidable c] {x : Sp} (h1 : c → a < x.1 ∧ x.1 < x.2 ∧ Ch b l x.2) (h0 : ¬ c → Ch b l a) : Ch b ((if c then [x] else []) ++ l) a := by
  by_cases h : c
  · rw [if_pos h]; exact h1 h
  · rw [if_neg h]; exact h0 h
theorem cutA_ch (hlt : lo < hi) (h : Ch b l a) : Ch b (cutA lo hi l) a := by
  induction l generalizing a with
  | nil => exact h
  | cons p r ih => exact .opt (fun c => ⟨h.1, c, .opt (fun c2 => ⟨lelt mnr (ltle hlt mxr), c2, ih h.2.2⟩) fun _ => (ih h.2.2).mono mnl (Int.le_refl _)⟩) fun _ => .opt (fun c2 => ⟨ltle h.1 mxl, c2, ih h.2.2⟩) fun _ => (ih h.2.2).mono (lle (ltt h.1 h.2.1)) (Int.le_refl _)
theorem mem_opt {x : Int} {q : Sp} : Mem x ((if q.1 < q.2 then [q] else []) ++ l) ↔ (q.1 ≤ x ∧ x < q.2) ∨ Mem x l := by
  by_cases h : q.1 < q.2
  · rw [if_pos h]; exact .rfl
  · rw [if_neg h]; exact (or_iff_right fun k => h (lelt k.1 k.2)).symm
theorem cutA_mem {x : Int} : Mem x (cutA lo hi l) ↔ Mem x l ∧ ¬ (lo ≤ x ∧ x < hi) := by
  induction l with
  | nil => exact ⟨nofun, fun h => h.1⟩
  | cons p r ih =>
    refine (mem_opt (q := (p.1, min p.2 lo))).trans ((or_congr_right (mem_opt (q := (max p.1 hi, p.2)))).trans ⟨fun h => h.elim (fun h => ⟨.inl ⟨h.1, ltle h.2 mnl⟩, fun q => ln q.1 (ltle h.2 mnr)⟩) fun h => h.elim (fun h => ⟨.inl ⟨let' mxl h.1, h.2⟩, fun q => ln (let' mxr h.1) q.2⟩) fun h => ⟨.inr (ih.mp h).1, (ih.mp h).2⟩, fun h => h.1.elim (fun m => ?_) fun m => .inr (.inr (ih.mpr ⟨m, h.2⟩))⟩)
    exact if c : x < lo then .inl ⟨m.1, ltmn m.2 c⟩ else .inr (.inl ⟨mxle m.1 (nl fun d => h.2 ⟨nl c, d⟩), m.2⟩)
theorem addS_ch (hlt : lo < hi) (ha : a < lo) (hb : hi ≤ b) (h : Ch b l a) : Ch b (addS l lo hi) a := by
  induction l generalizing a lo hi with
  | nil => exact ⟨ha, hlt, hb⟩
  | cons p r ih =>
    show Ch b (if p.2 < lo then _ else if hi < p.1 then _ else _) a
    by_cases c : p.2 < lo
    · rw [if_pos c]; exact ⟨h.1, h.2.1, ih hlt c hb h.2.2⟩
    · rw [if_neg c]
      by_cases d : hi < p.1
      · rw [if_pos d]; exact ⟨ha, hlt, d, h.2⟩
      · rw [if_neg d]; exact ih (lelt mnl (ltle hlt mxl)) (ltmn ha h.1) (mxle hb h.2.2.ab) (h.2.2.mono (lle (ltt h.1 h.2.1)) (Int.le_refl _))
theorem or_assoc' {p q r : Prop} : (p ∨ q ∨ r) ↔ ((p ∨ q) ∨ r) := or_assoc.symm
theorem addS_mem {x : Int} (hlt : lo < hi) : Mem x (addS l lo hi) ↔ Mem x l ∨ (lo ≤ x ∧ x < hi) := by
  induction l generalizing lo hi with
  | nil => exact or_comm
  | cons p r ih =>
    show Mem x (if p.2 < lo then _ else if hi < p.1 then _ else _) ↔ _
    by_cases c : p.2 < lo
    · rw [if_pos c]; exact (or_congr_right (ih hlt)).trans or_assoc.symm
    · rw [if_neg c]
      by_cases d : hi < p.1
      · rw [if_pos d]; exact or_comm
      · rw [if_neg d]
        refine (ih (lelt mnl (ltle hlt mxl))).trans ⟨fun h => h.elim (fun m => .inl (.inr m)) fun m => ?_, fun h => h.elim (fun m => m.elim (fun m => .inr ⟨let' mnr m.1, ltle m.2 mxr⟩) .inl) fun m => .inr ⟨let' mnl m.1, ltle m.2 mxl⟩⟩
        exact if e : lo ≤ x then if f : x < hi then .inr ⟨e, f⟩ else .inl (.inl ⟨let' (nl d) (nl f), ltmx m.2 (nl f)⟩) else .inl (.inl ⟨mnle m.1 (nle e), ltle (nle e) (nl c)⟩)
theorem has_mem {x : Int} (h : Has lo hi l) (h1 : lo ≤ x) (h2 : x < hi) : Mem x l := by
  induction l with
  | nil => exact h
  | cons p r ih => exact h.imp (fun k => ⟨let' k.1 h1, ltle h2 k.2⟩) ih
end
section
variable {n : Nat} {s : Store} {Q : V → Store → Prop} {l : List Sp} {lo hi b a : Int}
theorem sp_cut (hc : Ch b l a) (hb : b ≤ 100 + a) (k : ∀ l', Ch b l' a → (∀ x, Mem x l' ↔ Mem x l ∧ ¬ (lo ≤ x ∧ x < hi)) → Q (.d (spD l')) s) : Call (callF (n + 1)) .x_law .x_cut_span [.d (spD l), .d (.int lo), .d (.int hi)] s Q := by
  have hl := hc.lm hb
  have hR : (List.map spT (cutA lo hi l)).length ≤ lim := (List.length_map (as := cutA lo hi l) spT).symm ▸ Nat.le_trans cutA_len (Nat.le_trans (Nat.mul_le_mul_left 2 hl) (by decide))
  exact ⟨for_st (J := Option V × Option V) (fun acc j => [some (.d (spD l)), some (.d (.int lo)), some (.d (.int hi)), none, j.1, j.2]) (fun acc => some (3, .lst acc)) (fun _ => s) (fun r acc => acc ++ (cutA lo hi r).map spT = (cutA lo hi l).map spT)
    (fun acc j e => br (fun c => (List.append_nil acc).symm.trans e ▸ k _ (cutA_ch c hc) fun x => cutA_mem) fun c => ⟨(List.length_map (as := l) spT).symm ▸ Nat.le_trans hl (by decide), k l hc fun x => (and_iff_left fun q => c (lelt q.1 q.2)).symm⟩)
    (fun p r K hK acc j e => ⟨rfl, br (fun c1 => ⟨lt_push hR (opt1 c1 e), br (fun c2 => ⟨lt_push hR (opt1 c2 (opt1 c1 e)), hK _ (_, _) (opt1 c2 (opt1 c1 e))⟩) fun c2 => hK _ (_, _) (opt0 c2 (opt1 c1 e))⟩)
      fun c1 => br (fun c2 => ⟨lt_push hR (opt1 c2 (opt0 c1 e)), hK _ (_, _) (opt1 c2 (opt0 c1 e))⟩) fun c2 => hK _ (_, _) (opt0 c2 (opt0 c1 e))⟩) (a := []) (j := (none, none)) rfl⟩
theorem ad1 {acc R : List D} {p : Sp} (c : p.2 < lo) (e : acc ++ (addS (p :: l) lo hi).map spT = R) : (acc ++ [spT p]) ++ (addS l lo hi).map spT = R := by rw [show addS (p :: l) lo hi = _ from if_pos c] at e; exact ap1 e
theorem ad2 {acc R : List D} {p : Sp} (c : ¬ p.2 < lo) (d : hi < p.1) (e : acc ++ (addS (p :: l) lo hi).map spT = R) : ((acc ++ [spT (lo, hi)]) ++ [spT p]) ++ l.map spT = R := by rw [show addS (p :: l) lo hi = _ from (if_neg c).trans (if_pos d)] at e; exact ap1 (ap1 e)
theorem ad3 {acc R : List D} {p : Sp} (c : ¬ p.2 < lo) (d : ¬ hi < p.1) (e : acc ++ (addS (p :: l) lo hi).map spT = R) : acc ++ (addS l (min lo p.1) (max hi p.2)).map spT = R := by rw [show addS (p :: l) lo hi = _ from (if_neg c).trans (if_neg d)] at e; exact e
structure AdS where
  acc : List D
  lo : Int
  hi : Int
  d : Bool
  a : Int
structure AdI (b : Int) (R : List D) (r : List Sp) (x : AdS) : Prop where
  e : x.acc ++ (addT x.d r x.lo x.hi).map spT = R
  lt : x.lo < x.hi
  ch : Ch b r x.a
  d : x.d = true → x.hi ≤ x.a
theorem sp_add (hc : Ch b l a) (hb : b ≤ 100 + a) (ho : lo < hi → a < lo ∧ hi ≤ b) (k : ∀ l', Ch b l' a → (∀ x, Mem x l' ↔ Mem x l ∨ (lo ≤ x ∧ x < hi)) → Q (.d (spD l')) s) : Call (callF (n + 1)) .x_law .x_add_span [.d (spD l), .d (.int lo), .d (.int hi)] s Q := by
  have hl := hc.lm hb
  have hR : (List.map spT (addS l lo hi)).length ≤ lim := (List.length_map (as := addS l lo hi) spT).symm ▸ Nat.le_trans addS_len (Nat.le_trans (Nat.succ_le_succ hl) (by decide))
  have hl : (List.map spT l).length ≤ lim := (List.length_map (as := l) spT).symm ▸ Nat.le_trans hl (by decide)
  have k0 := fun c => k l hc fun x => (or_iff_left fun q => ln c (lelt q.1 q.2)).symm
  have k := fun c => k _ (addS_ch c (ho c).1 (ho c).2 hc) fun x => addS_mem c
  refine ⟨br (fun c => ⟨hl, k0 c⟩) fun c => for_st (J := Option V × Option V) (fun x j => [some (.d (spD l)), some (.d (.int x.lo)), some (.d (.int x.hi)), none, some (.d (.bool x.d)), j.1, j.2]) (fun x => some (3, .lst x.acc)) (fun _ => s) (AdI b ((addS l lo hi).map spT)) (fun x j h => ?_) (fun p r K hK x j h => ?_) (a := ⟨[], lo, hi, false, a⟩) (j := (none, none)) ⟨rfl, nle c, hc, nofun⟩⟩
  · obtain ⟨acc, lo', hi', d, a'⟩ := x
    cases d
    · have e : acc ++ [spT (lo', hi')] = _ := h.e
      have k := k (nle c)
      unfold spD at k
      rw [← e] at k hR
      exact ⟨(List.length_append ▸ hR :), k⟩
    · exact (List.append_nil acc).symm.trans h.e ▸ k (nle c)
  · obtain ⟨acc, lo', hi', d, a'⟩ := x
    obtain ⟨e, hlt, ⟨h1, h2, h3⟩, hd⟩ := h
    cases d
    · exact ⟨rfl, br (fun c => ⟨lt_push hR (ad1 c e), hK ⟨_, _, _, false, p.2⟩ (_, _) ⟨ad1 c e, hlt, h3, nofun⟩⟩) fun c => br (fun c2 => ⟨lt_push (l := spT p :: r.map spT) hR ((List.append_assoc _ [spT p] _).symm.trans (ad2 c c2 e)), lt_push hR (ad2 c c2 e), hK ⟨_, _, _, true, p.2⟩ (_, _) ⟨ad2 c c2 e, hlt, h3, fun _ => lle (ltt c2 h2)⟩⟩)
        fun c2 => hK ⟨_, _, _, false, p.2⟩ (_, _) ⟨ad3 c c2 e, lelt mnl (ltle hlt mxl), h3, nofun⟩⟩
    · have c2 : hi' < p.1 := lelt (hd rfl) h1
      exact ⟨rfl, br_f (ln (lle (ltt hlt (ltt c2 h2)))) (br_t c2 ⟨lt_push (l := r.map spT) hR (ap1 e), hK ⟨_, _, _, true, p.2⟩ (_, _) ⟨ap1 e, hlt, h3, fun _ => lle (ltt c2 h2)⟩⟩)⟩
theorem sp_has (k1 : (∀ x, lo ≤ x → x < hi → Mem x l) → Q (.d (.bool true)) s) (k0 : lo < hi → ¬ Has lo hi l → Q (.d (.bool false)) s) : Call (callF (n + 1)) .x_law .x_has_span [.d (spD l), .d (.int lo), .d (.int hi)] s Q :=
  ⟨br (fun c => k1 fun x h1 h2 => absurd (lelt h1 h2) (ln c)) fun c => for_st (A := Unit) (J := Option V × Option V) (fun _ j => [some (.d (spD l)), some (.d (.int lo)), some (.d (.int hi)), j.1, j.2]) (fun _ => none) (fun _ => s) (fun r _ => Has lo hi r ↔ Has lo hi l) (fun _ _ e => k0 (nle c) e.mpr)
    (fun p r K hK _ j e => ⟨rfl, br (fun c1 => br (fun c2 => k1 fun x => has_mem (e.mp (.inl ⟨c1, c2⟩))) fun c2 => hK () (_, _) ((or_iff_right fun q => c2 q.2).symm.trans e)) fun c1 => hK () (_, _) ((or_iff_right fun q => c1 q.1).symm.trans e)⟩) (a := ()) (j := (none, none)) .rfl⟩
theorem sp_first0 {m : Int} (k : Q (.d .none) s) : Call (callF (n + 1)) .x_law .x_first_span [.d (spD []), .d (.int m)] s Q := ⟨⟨by decide, k⟩⟩
theorem sp_first {m : Int} {p : Sp} (hl : (p :: l).length ≤ 100) (h : 0 < m) (k : Q (.d (spT (p.1, min p.2 (p.1 + m)))) s) : Call (callF (n + 1)) .x_law .x_first_span [.d (spD (p :: l)), .d (.int m)] s Q :=
  ⟨⟨List.length_map (as := p :: l) spT ▸ Nat.le_trans hl (by decide), br_f (lnl h) ⟨by decide, rfl, k⟩⟩⟩
theorem sp_without {o : List Sp} {b' a' : Int} (hc : Ch b l a) (hb : b ≤ 100 + a) (ho : Ch b' o a') (k : ∀ l', Ch b l' a → (∀ x, Mem x l' ↔ Mem x l ∧ ¬ Mem x o) → Q (.d (spD l')) s) : Call (callF (n + 2)) .x_law .x_without_spans [.d (spD l), .d (spD o)] s Q :=
  ⟨⟨(List.length_map (as := l) spT).symm ▸ Nat.le_trans (hc.lm hb) (by decide), for_st (J := Option V × Option V) (fun m j => [some (.d (spD l)), some (.d (spD o)), some (.d (spD m)), j.1, j.2]) (fun _ => none) (fun _ => s) (fun r m => Ch b m a ∧ ∀ x, (Mem x m ∧ ¬ Mem x r) ↔ Mem x l ∧ ¬ Mem x o)
    (fun m j e => k m e.1 fun x => (and_iff_left id).symm.trans (e.2 x))
    (fun p r K hK m j e => ⟨rfl, sp_cut e.1 hb fun l' c h => hK l' (_, _) ⟨c, fun x => ((and_congr_left fun _ => h x).trans (and_assoc.trans (and_congr_right fun _ => not_or.symm))).trans (e.2 x)⟩⟩) (a := l) (j := (none, none)) ⟨hc, fun _ => .rfl⟩⟩⟩
end
end
section
theorem nodup_inj {α : Type} {l : List α} (nd : l.Nodup) {i j : Nat} (hi : i < l.length) (hj : j < l.length) (q : l[i] = l[j]) : i = j := by
  have pw := List.pairwise_iff_getElem.mp nd
  rcases Nat.lt_trichotomy i j with c | c | c
  · exact absurd q (pw i j hi hj c)
  · exact c
  · exact absurd q.symm (pw j i hj hi c)
def OKT {α : Type} (lt : Nat → Nat → Option Bool) (t : KasT α) (P : α → Prop) : Prop := ∃ a, goc lt t = some a ∧ P a
section
variable {α β : Type} {lt : Nat → Nat → Option Bool} {n : Nat}
theorem OKT.ret {a : α} {P : α → Prop} (h : P a) : OKT lt (.ret a) P := ⟨a, rfl, h⟩
theorem OKT.bind {t : KasT α} {f : α → KasT β} {P : β → Prop} (h : OKT lt t fun a => OKT lt (f a) P) : OKT lt (t.bind f) P := by
  induction t with
  | ret a => obtain ⟨b, e, h⟩ := h; cases e; exact h
  | ask i j k ih =>
    obtain ⟨a, e, h⟩ := h
    obtain ⟨c, e1, e2⟩ := Option.bind_eq_some_iff.mp e
    obtain ⟨b, f1, f2⟩ := ih c ⟨a, e2, h⟩
    exact ⟨b, Option.bind_eq_some_iff.mpr ⟨c, e1, f1⟩, f2⟩
theorem OKT.mono {t : KasT α} {P P' : α → Prop} (h : OKT lt t P) (k : ∀ a, P a → P' a) : OKT lt t P' := let ⟨a, e, p⟩ := h; ⟨a, e, k a p⟩
theorem OKT.then {t : KasT α} {f : α → KasT β} {P : α → Prop} {P' : β → Prop} (h : OKT lt t P) (k : ∀ a, P a → OKT lt (f a) P') : OKT lt (t.bind f) P' := .bind (h.mono k)
theorem OKT.ite {c : Prop} [Decidable c] {t u : KasT α} {P : α → Prop} (h1 : c → OKT lt t P) (h0 : ¬ c → OKT lt u P) : OKT lt (if c then t else u) P := by
  by_cases h : c
  · rw [if_pos h]; exact h1 h
  · rw [if_neg h]; exact h0 h
def PermA (n : Nat) (p : Array Nat) : Prop := p.toList.Perm (List.range n)
def Ans (n : Nat) (lt : Nat → Nat → Option Bool) : Prop := ∀ i j, i < n → j < n → i ≠ j → ∃ b, lt i j = some b
theorem getD_list {p : Array Nat} {i : Nat} (hi : i < p.toList.length) : p.getD i 0 = p.toList[i] := dif_pos hi
theorem PermA.ix {p : Array Nat} (h : PermA n p) {i : Nat} (hi : i < n) : i < p.toList.length := by rw [h.length_eq, List.length_range]; exact hi
theorem OKT.ask {p : Array Nat} {i j : Nat} {k : Bool → KasT α} {P : α → Prop} (A : Ans n lt) (h : PermA n p) (hi : i < n) (hj : j < n) (hij : i ≠ j) (g : ∀ b, OKT lt (k b) P) : OKT lt (.ask (p.getD i 0) (p.getD j 0) k) P := by
  have im : ∀ {i} (hi : i < n), p.toList[i]'(h.ix hi) < n := fun hi => List.mem_range.mp (h.mem_iff.mp (List.getElem_mem (h.ix hi)))
  rw [getD_list (h.ix hi), getD_list (h.ix hj)]
  obtain ⟨b, e⟩ := A _ _ (im hi) (im hj) fun q => hij (nodup_inj (h.nodup_iff.mpr List.nodup_range) _ _ q)
  obtain ⟨a, e2, x⟩ := g b
  exact ⟨a, Option.bind_eq_some_iff.mpr ⟨b, e, e2⟩, x⟩
theorem PermA.swap {p q : Array Nat} (h : PermA n p) (k : q.Perm p) : PermA n q := (Array.perm_iff_toList_perm.mp k).trans h
theorem PermA.rev {p : Array Nat} {i j : Nat} (h : PermA n p) : PermA n (kas_rev p i j) := h.swap (mirror_perm _ _ _ _)
theorem ask_lt {m f : Nat} (hm : m + (f + 1) ≤ n) : m < n := Nat.lt_of_lt_of_le (Nat.lt_add_of_pos_right (Nat.succ_pos f)) hm
theorem ask_le {m : Nat} (hm : m < n) : m - 1 < n := Nat.lt_of_le_of_lt (Nat.sub_le m 1) hm
theorem ask_ne {m : Nat} (h0 : 0 < m) : m ≠ m - 1 := Nat.ne_of_gt (Nat.sub_lt h0 Nat.one_pos)
theorem ask_up {m f : Nat} (hm : m + (f + 1) ≤ n) : m + 1 + f ≤ n := by rw [Nat.add_assoc, Nat.add_comm 1 f]; exact hm
theorem ok_asc (A : Ans n lt) {p : Array Nat} (h : PermA n p) : ∀ (f m : Nat), 0 < m → m + f ≤ n → OKT lt (kas_asc p f m) fun r => 0 < r ∧ r ≤ n
  | 0, m, h0, hm => .ret ⟨h0, hm⟩
  | f + 1, m, h0, hm => .ask A h (ask_lt hm) (ask_le (ask_lt hm)) (ask_ne h0) fun b => .ite (fun _ => .ret ⟨h0, Nat.le_of_lt (ask_lt hm)⟩) fun _ => ok_asc A h f (m + 1) (Nat.succ_pos m) (ask_up hm)
theorem ok_desc (A : Ans n lt) : ∀ (f : Nat) (p : Array Nat) (m q : Nat), PermA n p → 0 < m → m + f ≤ n → OKT lt (kas_desc f p m q) fun r => PermA n r.1 ∧ 0 < r.2.1 ∧ r.2.1 ≤ n
  | 0, p, m, q, h, h0, hm => .ret ⟨h, h0, hm⟩
  | f + 1, p, m, q, h, h0, hm => .ask A h (ask_lt hm) (ask_le (ask_lt hm)) (ask_ne h0) fun b => .ite (fun _ => .ite (fun _ => ok_desc A f _ (m + 1) 0 h.rev (Nat.succ_pos m) (ask_up hm)) fun _ => ok_desc A f p (m + 1) 0 h (Nat.succ_pos m) (ask_up hm))
      fun _ => .ask A h (ask_le (ask_lt hm)) (ask_lt hm) (ask_ne h0).symm fun d => .ite (fun _ => .ret ⟨h, h0, Nat.le_of_lt (ask_lt hm)⟩) fun _ => ok_desc A f p (m + 1) (q + 1) h (Nat.succ_pos m) (ask_up hm)
theorem ok_tail (A : Ans n lt) {p : Array Nat} {m : Nat} (h : PermA n p) (h0 : 0 < m) (hm : m ≤ n) : OKT lt (kas_tail3 m n p) fun r => 0 < r.1 ∧ r.1 ≤ n ∧ PermA n r.2 :=
  (ok_asc A h.rev (n - m) m h0 (Nat.le_of_eq (Nat.add_sub_cancel' hm))).then fun r hr => .ret ⟨hr.1, hr.2, h.rev⟩
theorem ok_descPart (A : Ans n lt) {p : Array Nat} {m : Nat} (h : PermA n p) (hm : m + 1 ≤ n) : OKT lt (kas_descPart m n p) fun r => 0 < r.1 ∧ r.1 ≤ n ∧ PermA n r.2 :=
  (ok_desc A _ p (m + 1) 0 h (Nat.succ_pos m) (Nat.le_of_eq (Nat.add_sub_cancel' hm))).then fun r hr => .ite (fun _ => ok_tail A hr.1.rev hr.2.1 hr.2.2) fun _ => ok_tail A hr.1 hr.2.1 hr.2.2
theorem ok_count (A : Ans n lt) {p : Array Nat} (h : PermA n p) (hn : 1 ≤ n) : OKT lt (kas_count n p) fun r => 0 < r.1 ∧ r.1 ≤ n ∧ PermA n r.2 :=
  (ok_asc A h (n - 1) 1 Nat.one_pos (Nat.le_of_eq (Nat.add_sub_cancel' hn))).then fun m hm => .ite (fun _ => .ret ⟨hm.1, hm.2, h⟩) fun c =>
    have ll := Nat.lt_of_le_of_ne hm.2 fun q => c (beq_iff_eq.mpr q)
    .ite (fun c1 => .ask A h (Nat.lt_of_lt_of_le Nat.one_pos hn) (ask_le ll) (Nat.ne_of_lt (Nat.sub_pos_of_lt c1)) fun b => .ite (fun _ => .ret ⟨hm.1, hm.2, h⟩) fun _ => ok_descPart A h.rev ll) fun _ => ok_descPart A h ll
theorem ok_place (A : Ans n lt) {p : Array Nat} (h : PermA n p) {k : Nat} (hk : k < n) : ∀ (f l r : Nat), r ≤ k → OKT lt (kas_place p k f l r) fun _ => True
  | 0, _, _, _ => .ret trivial
  | f + 1, l, r, hr => .ite (fun _ => .ret trivial) fun c =>
    have m : (l + r) / 2 < k := Nat.lt_of_lt_of_le (Nat.div_lt_of_lt_mul (Nat.two_mul r ▸ Nat.add_lt_add_right (Nat.lt_of_not_le c) r)) hr
    .ask A h hk (Nat.lt_trans m hk) (Nat.ne_of_gt m) fun b => .ite (fun _ => ok_place A h hk f l _ (Nat.le_of_lt m)) fun _ => ok_place A h hk f _ r hr
theorem ok_bin (A : Ans n lt) : ∀ (f : Nat) (p : Array Nat) (k : Nat), PermA n p → k + f ≤ n → OKT lt (kas_bin f p k) (PermA n)
  | 0, _, _, h, _ => .ret h
  | f + 1, p, k, h, hk => (ok_place A h (ask_lt hk) k 0 k (Nat.le_refl _)).then fun l _ => ok_bin A f _ (k + 1) (h.swap (bubble_perm _ _ _)) (ask_up hk)
theorem ok_sort (A : Ans n lt) (hn : 1 ≤ n) : OKT lt (kas_sort n) (PermA n) :=
  (ok_count A (p := List.toArray (List.range n)) (List.Perm.refl _) hn).then fun r hr => .ite (fun _ => ok_bin A _ r.2 _ hr.2.2 (Nat.le_of_eq (Nat.add_sub_cancel' (Nat.max_le.mpr ⟨hr.2.1, hn⟩)))) fun _ => .ret hr.2.2
end
noncomputable def pick1 (k : List (Int × D)) (i : Nat) : D := (k[i]?.map (·.2)).getD .none
theorem picks_all {k : List (Int × D)} : ∀ {l : List Nat}, (∀ i ∈ l, i < k.length) → picks k l = some (l.map (pick1 k))
  | [], _ => rfl
  | i :: l, h => by
    show (k[i]?.bind fun a => (picks k l).map (a.2 :: ·)) = some (((k[i]?.map (·.2)).getD .none) :: l.map (pick1 k))
    rw [List.getElem?_eq_getElem (h i (.head _)), picks_all fun j m => h j (.tail _ m)]
    rfl
theorem sortP_ok {k : List (Int × D)} (nd : (k.map (·.1)).Nodup) : ∃ is : List Nat, is.Perm (List.range k.length) ∧ sortP k = some (is.map (pick1 k)) := by
  show ∃ is : List Nat, _ ∧ (if k.length < 2 then _ else _) = some _
  by_cases c : k.length < 2
  · refine ⟨_, .refl _, (if_pos c).trans (congrArg some ?_)⟩
    match k, c with
    | [], _ => rfl
    | [_], _ => rfl
  · have A : Ans k.length (ltP k) := fun i j hi hj hij => by
      show ∃ b, (k[i]?.bind fun a => k[j]?.bind fun b => if a.1 = b.1 then none else some (decide (a.1 < b.1))) = some b
      rw [List.getElem?_eq_getElem hi, List.getElem?_eq_getElem hj]
      refine ⟨_, if_neg fun q => hij (nodup_inj nd (i := i) (j := j) ((List.length_map (as := k) (·.1)).symm ▸ hi) ((List.length_map (as := k) (·.1)).symm ▸ hj) ?_)⟩
      rw [List.getElem_map, List.getElem_map]; exact q
    obtain ⟨p, e, hp⟩ := ok_sort A (Nat.le_trans (by decide) (Nat.not_lt.mp c))
    refine ⟨_, hp, (if_neg c).trans ?_⟩
    rw [e]
    exact picks_all fun i m => List.mem_range.mp (hp.mem_iff.mp m)
end
section
noncomputable def oc (w : List UInt8) (a b : Int) : List UInt8 := (w.take b.toNat).drop a.toNat
section
variable {w : List UInt8} {a b c k x y : Int}
theorem oc_len (h0 : 0 ≤ a) (h1 : a ≤ b) (h2 : b ≤ w.length) : ((oc w a b).length : Int) = b - a := by
  rw [oc, List.length_drop, List.length_take_of_le (Int.toNat_le.mpr h2), Int.ofNat_sub (Int.toNat_le_toNat h1), Int.toNat_of_nonneg h0, Int.toNat_of_nonneg (let' h0 h1)]
theorem oc_le : (oc w a b).length ≤ w.length := by rw [oc, List.length_drop]; exact Nat.le_trans (Nat.sub_le _ _) (List.length_take_le' _ _)
theorem oc_nil (h : b ≤ a) : oc w a b = [] := List.drop_eq_nil_of_le (Nat.le_trans (List.length_take_le _ _) (Int.toNat_le_toNat h))
theorem tmin : min x.toNat y.toNat = (min y x).toNat := by
  rcases Int.le_total x y with h | h
  · rw [Nat.min_eq_left (Int.toNat_le_toNat h), Int.min_eq_right h]
  · rw [Nat.min_eq_right (Int.toNat_le_toNat h), Int.min_eq_left h]
theorem oc_take (h0 : 0 ≤ a) (hk : 0 ≤ k) : (oc w a b).take k.toNat = oc w a (min b (a + k)) := by rw [oc, List.take_drop, List.take_take, ← Int.toNat_add h0 hk, tmin]; rfl
theorem oc_drop (h0 : 0 ≤ a) (hk : 0 ≤ k) : (oc w a b).drop k.toNat = oc w (a + k) b := by rw [oc, List.drop_drop, ← Int.toNat_add h0 hk]; rfl
theorem asb : a + (b - a) = b := by rw [Int.add_comm]; exact Int.sub_add_cancel b a
theorem oc_append (h0 : 0 ≤ a) (h1 : a ≤ b) (h2 : b ≤ c) : oc w a b ++ oc w b c = oc w a c := by
  have := List.take_append_drop (b - a).toNat (oc w a c)
  rw [oc_take h0 (Int.sub_nonneg.mpr h1), oc_drop h0 (Int.sub_nonneg.mpr h1), asb, Int.min_eq_right h2] at this
  exact this
theorem oc_all : oc w 0 w.length = w := List.take_length
theorem oc_tail (h0 : 0 ≤ a) (h1 : a ≤ b) : oc w a b ++ oc w b c = oc w a (max c b) := by
  rcases Int.le_total b c with h | h
  · rw [oc_append h0 h1 h, Int.max_eq_left h]
  · rw [oc_nil (a := b) h, List.append_nil, Int.max_eq_right h]
theorem adm : a + max 0 (b - a) = max a b := by
  rcases Int.le_total a b with h | h
  · rw [Int.max_eq_right (Int.sub_nonneg.mpr h), Int.max_eq_right h, asb]
  · rw [Int.max_eq_left (Int.sub_nonpos_of_le h), Int.max_eq_left h, Int.add_zero]
theorem oc_merge {e s t t' : Int} (et : t' = t) (h0 : 0 ≤ b) (h1 : b ≤ e) (h2 : 0 ≤ s) (h3 : s ≤ t) (h4 : b ≤ t) (h5 : s ≤ e) :
    (oc w b e).take (max 0 (s - b)).toNat ++ oc w s t ++ (oc w b e).drop (max 0 (t' - b)).toNat = oc w (min b s) (max e t) := by
  rw [et, oc_take h0 mxl, oc_drop h0 mxl, adm, adm, Int.max_eq_right h4, Int.min_eq_right (mxle h1 h5)]
  rcases Int.le_total b s with h | h
  · rw [Int.max_eq_right h, oc_append h0 h h3, oc_tail h0 h4, Int.min_eq_left h]
  · rw [Int.max_eq_left h, oc_nil (Int.le_refl b), List.nil_append, oc_tail h2 h3, Int.min_eq_right h]
end
noncomputable def pcT (w : List UInt8) (p : Sp) : D := .tup [.int p.1, .bytes (oc w p.1 p.2)]
noncomputable def pcD (w : List UInt8) (l : List Sp) : D := .lst (l.map (pcT w))
def Sp2 (p q : Sp) : Prop := p.2 < q.1 ∨ q.2 < p.1
theorem Sp2.symm {p q : Sp} (h : Sp2 p q) : Sp2 q p := Or.symm h
structure Pc (w : List UInt8) (A : Int) (l : List Sp) : Prop where
  sep : l.Pairwise Sp2
  inn : ∀ p ∈ l, A ≤ p.1 ∧ p.1 < p.2 ∧ p.2 ≤ w.length
section
variable {n : Nat} {w : List UInt8} {A b e x : Int} {l r : List Sp} {s : Store} {Q : V → Store → Prop} {p q : Sp}
theorem mem_iff : Mem x l ↔ ∃ p ∈ l, p.1 ≤ x ∧ x < p.2 := by
  induction l with
  | nil => exact ⟨nofun, fun ⟨_, m, _⟩ => nomatch m⟩
  | cons q l ih => exact (or_congr_right ih).trans ⟨fun h => h.elim (fun h => ⟨q, .head _, h⟩) fun ⟨p, m, k⟩ => ⟨p, .tail _ m, k⟩, fun ⟨p, m, k⟩ => (List.mem_cons.mp m).elim (fun e => .inl (e ▸ k)) fun m => .inr ⟨p, m, k⟩⟩
theorem Mem.perm (h : l.Perm r) : Mem x l ↔ Mem x r := mem_iff.trans (Iff.trans ⟨fun ⟨p, m, k⟩ => ⟨p, h.mem_iff.mp m, k⟩, fun ⟨p, m, k⟩ => ⟨p, h.mem_iff.mpr m, k⟩⟩ mem_iff.symm)
theorem Pc.perm (k : Pc w A l) (h : r.Perm l) : Pc w A r := ⟨(h.pairwise_iff Sp2.symm).mpr k.sep, fun p m => k.inn p (h.mem_iff.mp m)⟩
theorem Pc.pl (k : Pc w A l) (h0 : 0 ≤ A) (m : p ∈ l) : ((oc w p.1 p.2).length : Int) = p.2 - p.1 := have h := k.inn p m; oc_len (let' h0 h.1) (lle h.2.1) h.2.2
theorem Pc.pe (k : Pc w A l) (h0 : 0 ≤ A) (m : p ∈ l) : p.1 + ((oc w p.1 p.2).length : Int) = p.2 := by rw [k.pl h0 m, asb]
theorem Sp2.ne (h : Sp2 p q) (hp : p.1 < p.2) (hq : q.1 < q.2) : p.1 ≠ q.1 := h.elim (fun h => Int.ne_of_lt (ltt hp h)) fun h => Int.ne_of_gt (ltt hq h)
theorem Pc.nd (k : Pc w A l) : (l.map (·.1)).Nodup := List.pairwise_map.mpr (k.sep.imp_of_mem fun m m' h => h.ne (k.inn _ m).2.1 (k.inn _ m').2.1)
theorem Pc.len (k : Pc w A l) (h0 : 0 ≤ A) : l.length ≤ w.length := by
  have ge : ∀ {p}, p ∈ l → ((p.1.toNat : Nat) : Int) = p.1 := fun m => Int.toNat_of_nonneg (let' h0 (k.inn _ m).1)
  have := List.Nodup.length_le_of_subset (l₁ := l.map (·.1.toNat)) (l₂ := List.range w.length) (List.pairwise_map.mpr (k.sep.imp_of_mem fun m m' h e => h.ne (k.inn _ m).2.1 (k.inn _ m').2.1 ((ge m).symm.trans (e ▸ ge m')))) fun i m => ?_
  · rw [List.length_map, List.length_range] at this; exact this
  · obtain ⟨p, mp, rfl⟩ := List.mem_map.mp m
    exact List.mem_range.mpr (Int.ofNat_lt.mp ((ge mp).symm ▸ ltle (k.inn p mp).2.1 (k.inn p mp).2.2))
theorem lm100 {m : Nat} (h : m ≤ 100) : m ≤ lim := Nat.le_trans h (by decide)
theorem sp_covered (k : Pc w A l) (h0 : 0 ≤ A) (hw : w.length ≤ 60) (kk : Q (.d (spD l)) s) : Call (callF (n + 1)) .x_law .x_covered [.d (pcD w l)] s Q :=
  ⟨⟨List.length_map (as := l) (pcT w) ▸ lm100 (Nat.le_trans (k.len h0) (Nat.le_trans hw (by decide))), cmp_map (g1 := spT) (fun p m K hK => ⟨rfl, lm100 (Nat.le_trans oc_le (Nat.le_trans hw (by decide))), by rw [show spT p = .tup [.int p.1, .int p.2] from rfl, ← k.pe h0 m] at hK; exact hK⟩) kk⟩⟩
theorem keyed_pc : ∀ (l : List Sp), keyed (l.map (pcT w)) = some (l.map fun p => (p.1, pcT w p))
  | [] => rfl
  | p :: l => congrArg (fun o => o.map ((p.1, pcT w p) :: ·)) (keyed_pc l)
noncomputable def ats (l : List Sp) (is : List Nat) : List Sp := is.map fun i => (l[i]?).getD (0, 0)
theorem ats_range : ∀ (l : List Sp), ats l (List.range l.length) = l
  | [] => rfl
  | a :: l => by
    rw [ats, List.length_cons, List.range_succ_eq_map, List.map_cons, List.map_map]
    exact congrArg (a :: ·) (ats_range l)
theorem bi_sorted {P : D → Prop} (nd : (l.map (·.1)).Nodup) (hl : l.length < 64) (k : ∀ q : List Sp, q.Perm l → P (pcD w q)) : biP .sorted [.d (pcD w l)] s P := by
  obtain ⟨is, hp, e⟩ := sortP_ok (k := l.map fun p => (p.1, pcT w p)) (by rw [List.map_map]; exact nd)
  rw [List.length_map] at hp
  refine ons (keyed_pc l) ⟨(List.length_map (as := l) (pcT w)).symm ▸ hl, ons e ?_⟩
  have := k (ats l is) ((hp.map _).trans (List.Perm.of_eq (ats_range l)))
  rw [pcD, ats, List.map_map] at this
  rw [List.map_congr_left (g := pcT w ∘ fun i => (l[i]?).getD (0, 0)) fun i m => ?_]
  · exact this
  · have := List.mem_range.mp (hp.mem_iff.mp m)
    show (((l.map _)[i]?).map _).getD _ = pcT w ((l[i]?).getD _)
    rw [List.getElem?_map, List.getElem?_eq_getElem this]
    rfl
end
end
section
section
variable {n : Nat} {w : List UInt8} {A b e x : Int} {l r al : List Sp} {s : Store} {Q : V → Store → Prop} {p q : Sp}
theorem Mem.app : Mem x (l ++ r) ↔ Mem x l ∨ Mem x r := by
  induction l with
  | nil => exact (or_iff_right id).symm
  | cons q l ih => exact (or_congr_right ih).trans or_assoc.symm
structure ApI (w : List UInt8) (A : Int) (M : Int → Prop) (b e : Int) (al r : List Sp) : Prop where
  pc : Pc w A (al ++ r)
  far : ∀ q ∈ al, Sp2 q (b, e)
  lo : A ≤ b
  lt : b < e
  hi : e ≤ w.length
  mem : ∀ x, (Mem x al ∨ Mem x r) ∨ (b ≤ x ∧ x < e) ↔ M x
theorem ApI.in {M : Int → Prop} (h : ApI w A M b e al (p :: r)) : A ≤ p.1 ∧ p.1 < p.2 ∧ p.2 ≤ w.length := h.pc.inn p (List.mem_append_right _ (.head _))
theorem mem_1 : Mem x [p] ↔ (p.1 ≤ x ∧ x < p.2) := or_iff_left id
theorem ApI.keep {M : Int → Prop} (h : ApI w A M b e al (p :: r)) (c : Sp2 p (b, e)) : ApI w A M b e (al ++ [p]) r :=
  ⟨(List.append_assoc al [p] r).symm ▸ h.pc, fun q m => (List.mem_append.mp m).elim (h.far q) fun m => List.mem_singleton.mp m ▸ c, h.lo, h.lt, h.hi, fun x => (or_congr_left ((or_congr_left (Mem.app.trans (or_congr_right mem_1))).trans or_assoc)).trans (h.mem x)⟩
theorem Sp2.join {a c : Sp} (h1 : Sp2 q a) (h2 : Sp2 q c) (ta : ¬ a.2 < c.1) (tc : ¬ c.2 < a.1) (hq : q.1 < q.2) : Sp2 q (min a.1 c.1, max a.2 c.2) :=
  h1.elim (fun h1 => h2.elim (fun h2 => .inl (ltmn h1 h2)) fun h2 => absurd (ltt h2 (ltt hq h1)) tc) fun h1 => h2.elim (fun h2 => absurd (ltt h1 (ltt hq h2)) ta) fun h2 => .inr (mxlt h1 h2)
theorem join_mem {a c : Sp} (ta : ¬ a.2 < c.1) (tc : ¬ c.2 < a.1) : (min a.1 c.1 ≤ x ∧ x < max a.2 c.2) ↔ (a.1 ≤ x ∧ x < a.2) ∨ (c.1 ≤ x ∧ x < c.2) :=
  ⟨fun h => if d : a.1 ≤ x then if f : x < a.2 then .inl ⟨d, f⟩ else .inr ⟨let' (nl ta) (nl f), ltmx h.2 (nl f)⟩ else .inr ⟨mnle h.1 (nle d), ltle (nle d) (nl tc)⟩,
   fun h => h.elim (fun h => ⟨let' mnl h.1, ltle h.2 mxl⟩) fun h => ⟨let' mnr h.1, ltle h.2 mxr⟩⟩
theorem ApI.join {M : Int → Prop} (h : ApI w A M b e al (p :: r)) (c1 : ¬ p.2 < b) (c2 : ¬ e < p.1) : ApI w A M (min b p.1) (max e p.2) al r := by
  have hm := List.pairwise_append.mp h.pc.sep
  refine ⟨⟨h.pc.sep.sublist ((List.sublist_cons_self p r).append_left al), fun q m => h.pc.inn q ((List.mem_append.mp m).elim (List.mem_append_left _) fun m => List.mem_append_right _ (.tail _ m))⟩,
    fun q m => (h.far q m).join (hm.2.2 q m p (.head _)) c2 c1 (h.pc.inn q (List.mem_append_left _ m)).2.1, lemn h.lo h.in.1, lelt mnl (ltle h.lt mxl), mxle h.hi h.in.2.2, fun x => Iff.trans ?_ (h.mem x)⟩
  show _ ↔ (Mem x al ∨ _ ∨ Mem x r) ∨ _
  rw [join_mem (a := (b, e)) (c := p) c2 c1, or_left_comm (a := Mem x al), or_assoc, or_assoc, or_comm (a := b ≤ x ∧ x < e)]
  exact ⟨fun h => h.elim (fun m => .inr (.inl (.inl m))) fun h => h.elim (fun m => .inr (.inl (.inr m))) fun h => h.elim .inl fun m => .inr (.inr m), fun h => h.elim (fun m => .inr (.inr (.inl m))) fun h => h.elim (fun h => h.elim .inl fun m => .inr (.inl m)) fun m => .inr (.inr (.inr m))⟩
theorem sp_add_none {n : Nat} (hl : l.length ≤ 100) (k : Q (.d (pcD w l)) s) : Call (callF (n + 1)) .x_law .x_add_piece [.d (pcD w l), .d (.int b), .d (.bytes [])] s Q :=
  ⟨⟨by decide, lm100 ((List.length_map (as := l) (pcT w)).symm ▸ hl), k⟩⟩
theorem sp_add_piece (h : Pc w A l) (h0 : 0 ≤ A) (h1 : A ≤ b) (h2 : b < e) (h3 : e ≤ w.length) (hw : w.length ≤ 60)
    (k : ∀ q : List Sp, Pc w A q → (∀ x, Mem x q ↔ Mem x l ∨ (b ≤ x ∧ x < e)) → Q (.d (pcD w q)) s) : Call (callF (n + 1)) .x_law .x_add_piece [.d (pcD w l), .d (.int b), .d (.bytes (oc w b e))] s Q := by
  have ol : ∀ {x y}, (oc w x y).length ≤ lim := lm100 (Nat.le_trans oc_le (Nat.le_trans hw (by decide)))
  refine ⟨⟨ol, br_f (fun c => ?_) (for_st (A := List Sp × Int × Int) (J := Option V × Option V × Option V × Option V × Option V × Option V)
    (fun a j => [some (.d (pcD w l)), some (.d (.int b)), some (.d (.bytes (oc w b e))), none, some (.d (.int a.2.1)), some (.d (.bytes (oc w a.2.1 a.2.2))), j.1, j.2.1, j.2.2.1, j.2.2.2.1, j.2.2.2.2.1, j.2.2.2.2.2]) (fun a => some (3, .lst (a.1.map (pcT w)))) (fun _ => s)
    (fun r a => ApI w A (fun x => Mem x l ∨ (b ≤ x ∧ x < e)) a.2.1 a.2.2 a.1 r) ?_ ?_ (a := ([], b, e)) (j := (none, none, none, none, none, none)) ⟨h, nofun, h1, h2, h3, fun x => or_congr_left (or_iff_right id)⟩)⟩⟩
  · rw [oc_len (let' h0 h1) (lle h2) h3] at c
    exact Int.ne_of_gt (Int.sub_pos_of_lt h2) c
  · intro ⟨al, b, e⟩ j h
    have hp : Pc w A (al ++ [(b, e)]) := ⟨List.pairwise_append.mpr ⟨(List.pairwise_append.mp h.pc.sep).1, List.pairwise_singleton _ _, fun q m c mc => List.mem_singleton.mp mc ▸ h.far q m⟩, fun q m => (List.mem_append.mp m).elim (fun m => h.pc.inn q (List.mem_append_left _ m)) fun m => List.mem_singleton.mp m ▸ ⟨h.lo, h.lt, h.hi⟩⟩
    have hl := Nat.le_trans (hp.len h0) hw
    have hb := bi_sorted (s := s) (P := kd Q s) hp.nd (Nat.lt_of_le_of_lt hl (by decide)) fun q m => k q (hp.perm m) fun x => (Mem.perm m).trans (Mem.app.trans ((or_congr (or_iff_left id).symm mem_1).trans (h.mem x)))
    rw [pcD, List.map_append] at hb
    rw [← List.length_map (f := pcT w), List.map_append, List.length_append] at hl
    exact ⟨Nat.le_trans hl (by decide), hb⟩
  · intro p r K hK ⟨al, b, e⟩ j h
    have hi := h.in
    have e1 := oc_len (let' h0 hi.1) (lle hi.2.1) hi.2.2
    have e2 := oc_len (let' h0 h.lo) (lle h.lt) h.hi
    have ep : p.1 + ((oc w p.1 p.2).length : Int) = p.2 := by rw [e1, asb]
    have ee : b + ((oc w b e).length : Int) = e := by rw [e2, asb]
    have la : (al.map (pcT w)).length < lim := Nat.lt_of_le_of_lt (Nat.le_trans (Nat.le_trans (Nat.le_trans (Nat.le_of_eq (List.length_map _)) (List.length_append ▸ Nat.le_add_right _ _)) (h.pc.len h0)) hw) (by decide)
    have kp : ∀ j, Sp2 p (b, e) → K _ _ _ := fun j c => hK (al ++ [p], b, e) j (h.keep c)
    rw [show (al ++ [p], b, e).1.map (pcT w) = al.map (pcT w) ++ [pcT w p] from List.map_append] at kp
    refine ⟨rfl, ol, ol, br (fun c => ⟨la, kp (_, _, _, _, _, _) (.inl (ep ▸ c))⟩) fun c => br (fun d => ⟨la, kp (_, _, _, _, _, _) (.inr (ee ▸ d))⟩) fun d => ?_⟩
    have c := ep ▸ c
    have d := ee ▸ d
    have hb0 := let' h0 h.lo
    have kk := fun j => hK (al, min b p.1, max e p.2) j (h.join c d)
    rw [← oc_merge ep hb0 (lle h.lt) (let' h0 hi.1) (lle hi.2.1) (nl c) (nl d)] at kk
    have le2 : ∀ {u v : List UInt8}, u.length ≤ 60 → v.length ≤ 60 → u.length + v.length ≤ 120 := Nat.add_le_add
    have o6 : ∀ {x y}, (oc w x y).length ≤ 60 := Nat.le_trans oc_le hw
    refine ⟨mxl, ol, mxl, ol, ?_, ?_, kk (_, _, _, _, _, _)⟩
    · exact Nat.le_trans (le2 (Nat.le_trans (List.length_take_le' _ _) o6) o6) (by decide)
    · refine Nat.le_trans (Nat.add_le_add (List.length_append ▸ le2 (Nat.le_trans (List.length_take_le' _ _) o6) o6) (show _ ≤ 60 from Nat.le_trans ?_ (o6 (x := b) (y := e)))) (by decide)
      exact List.length_drop ▸ Nat.sub_le _ _
end
end
section
section
variable {n : Nat} {w : List UInt8} {A b e x : Int} {l r al : List Sp} {s : Store} {Q : V → Store → Prop} {p q : Sp}
noncomputable def tkL (x : Int) (l : List Sp) : List Sp := l.filter fun p => decide (x < p.1)
def TkE (x e : Int) (l r : List Sp) : Prop := (∃ p ∈ l, p.1 ≤ x ∧ x < p.2 ∧ e = p.2) ∨ (e = x ∧ ∀ p ∈ l, p.1 ≤ x → x < p.2 → p ∈ r)
theorem TkE.next (h : TkE x e l (p :: r)) (c : ¬ (p.1 ≤ x ∧ x < p.2)) : TkE x e l r := h.imp id fun h => ⟨h.1, fun q m q1 q2 => (List.mem_cons.mp (h.2 q m q1 q2)).elim (fun e => absurd (e ▸ ⟨q1, q2⟩) c) id⟩
theorem tk_pos (h : x < p.1) : tkL x (p :: r) = p :: tkL x r := List.filter_cons_of_pos (decide_eq_true h)
theorem tk_neg (h : ¬ x < p.1) : tkL x (p :: r) = tkL x r := List.filter_cons_of_neg fun e => h (of_decide_eq_true e)
theorem sp_taken (h : Pc w A l) (h0 : 0 ≤ A) (hw : w.length ≤ 60) (k : ∀ e, TkE x e l [] → Q (.d (.tup [.bytes (oc w x e), pcD w (tkL x l)])) s) : Call (callF (n + 1)) .x_law .x_taken_from [.d (pcD w l), .d (.int x)] s Q := by
  have ol : ∀ {x y}, (oc w x y).length ≤ lim := lm100 (Nat.le_trans oc_le (Nat.le_trans hw (by decide)))
  have hl : (tkL x l).length < lim := Nat.lt_of_le_of_lt (Nat.le_trans (List.length_filter_le _ _) (Nat.le_trans (h.len h0) hw)) (by decide)
  refine ⟨for_st (A := List UInt8 × List Sp × Int) (J := Option V × Option V) (fun a j => [some (.d (pcD w l)), some (.d (.int x)), some (.d (.bytes a.1)), none, j.1, j.2]) (fun a => some (3, .lst (a.2.1.map (pcT w)))) (fun _ => s)
    (fun r a => a.1 = oc w x a.2.2 ∧ a.2.1 ++ tkL x r = tkL x l ∧ TkE x a.2.2 l r ∧ ∀ p ∈ r, p ∈ l) ?_ ?_ (a := ([], [], x)) (j := (none, none)) ⟨(oc_nil (Int.le_refl x)).symm, rfl, .inr ⟨rfl, fun p m _ _ => m⟩, fun _ => id⟩⟩
  · intro ⟨v, al, e⟩ j ⟨e1, e2, e3, _⟩
    have := k e e3
    rw [← e2, ← e1] at this
    exact (List.append_nil al) ▸ this
  · intro p r K hK ⟨v, al, e⟩ j ⟨e1, e2, e3, e4⟩
    have mp := e4 p (.head _)
    have hi := h.inn p mp
    have ep := h.pe h0 mp
    have e4 := fun q m => e4 q (.tail _ m)
    refine ⟨rfl, br (fun c1 => ⟨ol, br (fun c2 => ⟨Int.sub_nonneg.mpr c1, ol, hK (_, al, p.2) (_, _) ⟨?_, tk_neg (ln c1) ▸ e2, .inl ⟨p, mp, c1, ltle c2 (Int.le_of_eq ep), rfl⟩, e4⟩⟩) fun c2 => br_f (ln c1) (hK (v, al, e) (_, _) ⟨e1, tk_neg (ln c1) ▸ e2, e3.next fun q => c2 (ltle q.2 (Int.le_of_eq ep.symm)), e4⟩)⟩) fun c1 => br_t (nle c1) ?_⟩
    · exact (oc_drop (let' h0 hi.1) (Int.sub_nonneg.mpr c1)).trans (by rw [asb])
    · have e5 : (al ++ [p]) ++ tkL x r = tkL x l := ap1 (tk_pos (nle c1) ▸ e2)
      have := hK (v, al ++ [p], e) (some (.d (.int p.1)), some (.d (.bytes (oc w p.1 p.2)))) ⟨e1, e5, e3.next fun q => c1 q.1, e4⟩
      rw [show (v, al ++ [p], e).2.1.map (pcT w) = al.map (pcT w) ++ [pcT w p] from List.map_append] at this
      exact ⟨(List.length_map (as := al) _).symm ▸ Nat.lt_of_le_of_lt (e5 ▸ (by rw [List.append_assoc, List.length_append]; exact Nat.le_add_right _ _)) hl, this⟩
end
end
section
noncomputable def iO (o : Option Int) : D := o.casesOn .none .int
noncomputable def crC (lim used : Int) (told : Option Int) : Cell := .inst .x_Credit [(.x_limit, .d (.int lim)), (.x_used, .d (.int used)), (.x_told_at, .d (iO told))]
noncomputable def winC (sz lm got usd : Int) (ow : Bool) : Cell := .inst .x_Window [(.x_size, .d (.int sz)), (.x_limit, .d (.int lm)), (.x_got, .d (.int got)), (.x_used, .d (.int usd)), (.x_owes_limit, .d (.bool ow))]
section
variable {n : Nat} {s : Store} {i : Nat} {Q : V → Store → Prop} {m : Int}
section
variable {cl cu : Int} {ct : Option Int} (h : s[i]? = some (crC cl cu ct))
include h
theorem cr_room (k : Q (.d (.int (cl - cu))) s) : Call (callF (n + 1)) .x_Credit .x_room [.loc i] s Q := ⟨ons h (ons h k)⟩
theorem cr_spend (hm : ¬ cl - cu < m) (k : Q (.d .none) (s.set i (crC cl (cu + m) ct))) : Call (callF (n + 2)) .x_Credit .x_spend [.loc i, .d (.int m)] s Q :=
  ⟨ons h (cr_room h (br_f hm (ons h (ons h k))))⟩
theorem cr_raise (k : ∀ b, Q (.d (.bool b)) (s.set i (crC (max cl m) cu ct))) : Call (callF (n + 1)) .x_Credit .x_raise_to [.loc i, .d (.int m)] s Q := by
  refine ⟨ons h (br (fun c => ?_) fun c => ons h ?_)⟩
  · have := k false
    rw [Int.max_eq_left c, set_same h] at this
    exact this
  · have := k true
    rw [Int.max_eq_right (lle (nle c))] at this
    exact this
theorem cr_next (k0 : Q (.d .none) s) (k1 : ¬ 0 < cl - cu → Q (.d (.int cl)) (s.set i (crC cl cu (some cl)))) : Call (callF (n + 2)) .x_Credit .x_next_blocked [.loc i] s Q := by
  cases ct with
  | none => exact ⟨ons h (cr_room h (br (fun _ => k0) fun c => ons h (ons h (ons h (ons h (ons (gs_self h) (k1 c)))))))⟩
  | some t => exact ⟨ons h (cr_room h (br (fun _ => k0) fun c => ons h (ons h (br (fun _ => k0) fun _ => ons h (ons h (ons (gs_self h) (k1 c)))))))⟩
theorem cr_lost (k : ∀ ct', Q (.d .none) (s.set i (crC cl cu ct'))) : Call (callF (n + 1)) .x_Credit .x_on_blocked_lost [.loc i, .d (.int m)] s Q := by
  have k0 := set_same h ▸ k ct
  refine ⟨ons h ?_⟩
  cases ct with
  | none => exact k0
  | some t => exact br (fun _ => ons h (k none)) fun _ => k0
end
section
variable {sz lm got usd : Int} {ow : Bool} (h : s[i]? = some (winC sz lm got usd ow))
include h
theorem win_next (hb : -1000000 < lm - usd ∧ lm - usd < 1000000) (k0 : ow = false → sz ≤ 2 * (lm - usd) → Q (.d .none) s) (k1 : ∀ lm', (ow = true ∧ lm' = lm ∧ ¬ 2 * (lm - usd) < sz ∨ 2 * (lm - usd) < sz ∧ lm' = usd + sz) → Q (.d (.int lm')) (s.set i (winC sz lm' got usd false))) :
    Call (callF (n + 1)) .x_Window .x_next_limit [.loc i] s Q := by
  have hm : (-1000000 : Int) < 2 ∧ (2 : Int) < 4294967296 ∧ -1000000 < lm - usd ∧ lm - usd < 4294967296 := ⟨by decide, by decide, hb.1, ltt hb.2 (by decide)⟩
  cases ow with
  | false => exact ⟨ons h (ons h ⟨hm, ons h (ons h (brn (fun c => k0 rfl (nl c)) fun c => ons h (br_t c (ons (gs_self h) (ons (gs_self h) (ons (gs_self h) (ons (gs_self (gs_self h)) (q_set (Q := Q _) (k1 (usd + sz) (.inr ⟨c, rfl⟩))))))))))⟩)⟩
  | true => exact ⟨ons h (ons h ⟨hm, ons h (ons h (ons h (br (fun c => ons (gs_self h) (ons (gs_self h) (ons (gs_self h) (ons (gs_self (gs_self h)) (q_set (Q := Q _) (k1 (usd + sz) (.inr ⟨c, rfl⟩))))))) fun c => ons (gs_self h) (k1 lm (.inl ⟨rfl, rfl, c⟩)))))⟩)⟩
theorem win_got (hm : ¬ lm < got + m) (k : Q (.d .none) (s.set i (winC sz lm (got + m) usd ow))) : Call (callF (n + 1)) .x_Window .x_on_got [.loc i, .d (.int m)] s Q := ⟨ons h (ons h (br_f hm (ons h (ons h k))))⟩
theorem win_read (k : Q (.d .none) (s.set i (winC sz lm got (usd + m) ow))) : Call (callF (n + 1)) .x_Window .x_on_read [.loc i, .d (.int m)] s Q := ⟨ons h (ons h k)⟩
theorem win_lost (k : ∀ o, (ow = true → o = true) → (m = lm → o = true) → Q (.d .none) (s.set i (winC sz lm got usd o))) : Call (callF (n + 1)) .x_Window .x_on_limit_lost [.loc i, .d (.int m)] s Q :=
  ⟨ons h (br (fun _ => ons h (k true (fun _ => rfl) fun _ => rfl)) fun c => set_same h ▸ k ow id fun e => absurd e c)⟩
end
end
end
section
inductive Sst where | rdy | snd | snt | rcd
noncomputable def Sst.n (x : Sst) : N := x.casesOn .x_ready .x_send .x_data_sent .x_data_recvd
noncomputable def Sst.op (x : Sst) : Bool := x.casesOn true true false false
structure SndP where
  lm : Int
  to : Int
  st : Sst
  ack : List Sp
  los : List Sp
  oe : Bool
  ea : Bool
noncomputable def sndC (w : List UInt8) (fin : Bool) (p : SndP) : Cell := .inst .x_SendPart [(.x_limit, .d (.int p.lm)), (.x_state, .d (.str p.st.n)), (.x_written, .d (.bytes w)), (.x_sent_to, .d (.int p.to)), (.x_acked, .d (spD p.ack)), (.x_lost, .d (spD p.los)),
  (.x_is_finished, .d (.bool fin)), (.x_owes_end, .d (.bool p.oe)), (.x_is_end_acked, .d (.bool p.ea)), (.x_reset_code, .d .none), (.x_owes_reset, .d (.bool false))]
structure SA (w : List UInt8) (p : SndP) : Prop where
  n : (w.length : Int) ≤ 13
  t0 : 0 ≤ p.to
  tN : p.to ≤ w.length
  tL : p.to ≤ p.lm
  ca : Ch p.to p.ack (-1)
  cl : Ch p.to p.los (-1)
  dj : ∀ x, Mem x p.los → ¬ Mem x p.ack
  oe : p.oe = true → p.ea = false
  op : p.st.op = false → p.to = w.length
  rc : p.st = .rcd → (∀ x : Int, 0 ≤ x → x < w.length → Mem x p.ack) ∧ p.ea = true
  l1 : 1 ≤ p.lm
section
variable {n : Nat} {s : Store} {i : Nat} {p : SndP} {w : List UInt8} {Q : V → Store → Prop}
theorem SA.wl (I : SA w p) : w.length ≤ lim := Int.ofNat_le.mp (let' I.n (by decide))
theorem SA.b (I : SA w p) : p.to ≤ 100 + -1 := let' I.tN (let' I.n (by decide))
theorem st4 {P : Prop} (x : Sst) (a : x = .rdy → P) (b : x = .snd → P) (c : x = .snt → P) (d : x = .rcd → P) : P := by cases x; exact a rfl; exact b rfl; exact c rfl; exact d rfl
theorem b2 {P : Prop} (b : Bool) (t : b = true → P) (f : b = false → P) : P := by cases b; exact f rfl; exact t rfl
theorem snd_st {fin : Bool} (h : s[i]? = some (sndC w fin p)) {x : Sst} (e : p.st = x) : s[i]? = some (sndC w fin ⟨p.lm, p.to, x, p.ack, p.los, p.oe, p.ea⟩) := e ▸ h
theorem snd_ea {fin : Bool} (h : s[i]? = some (sndC w fin p)) {x : Bool} (e : p.ea = x) : s[i]? = some (sndC w fin ⟨p.lm, p.to, p.st, p.ack, p.los, p.oe, x⟩) := e ▸ h
theorem snd_raise {l : Int} {fin : Bool} (h : s[i]? = some (sndC w fin p)) (k : Q (.d .none) (s.set i (sndC w fin { p with lm := max p.lm l }))) : Call (callF (n + 1)) .x_SendPart .x_raise_limit [.loc i, .d (.int l)] s Q := ⟨ons h (ons h k)⟩
theorem snd_reset {fin : Bool} (h : s[i]? = some (sndC w fin p)) (k : Q (.d .none) s) : Call (callF (n + 1)) .x_SendPart .x_next_reset [.loc i] s Q := ⟨ons h k⟩
theorem snd_blk {fin : Bool} (h : s[i]? = some (sndC w fin p)) (hw : w.length ≤ lim) (h0 : 0 ≤ p.to) (k0 : Q (.d .none) s) (k1 : w ≠ [] → Q (.d (.int p.lm)) s) : Call (callF (n + 1)) .x_SendPart .x_blocked_at [.loc i] s Q := by
  exact ⟨st4 p.st (fun e => ons (snd_st h e) (ons h (ons h (br (fun _ => ons h ⟨hw, ons h (br (fun d => ons h (k1 fun e => ln h0 (show p.to < ((([] : List UInt8).length : Nat) : Int) from e ▸ d))) fun _ => k0)⟩) fun _ => k0))))
    (fun e => ons (snd_st h e) (ons h (ons h (br (fun _ => ons h ⟨hw, ons h (br (fun d => ons h (k1 fun e => ln h0 (show p.to < ((([] : List UInt8).length : Nat) : Int) from e ▸ d))) fun _ => k0)⟩) fun _ => k0)))) (fun e => ons (snd_st h e) k0) fun e => ons (snd_st h e) k0⟩
theorem snd_any {fin : Bool} (h : s[i]? = some (sndC w fin p)) (hw : w.length ≤ lim) (k : ∀ r, Q (.d (.int r)) s) : Call (callF (n + 1)) .x_SendPart .x_new_room [.loc i, .d .none] s Q :=
  ⟨st4 p.st (fun e => ons (snd_st h e) (ons h ⟨hw, ons h (ons h (k _))⟩)) (fun e => ons (snd_st h e) (ons h ⟨hw, ons h (ons h (k _))⟩)) (fun e => ons (snd_st h e) (k _)) fun e => ons (snd_st h e) (k _)⟩
theorem snd_room {fin : Bool} {m : Int} (h : s[i]? = some (sndC w fin p)) (hw : w.length ≤ lim) (k0 : p.st.op = false → Q (.d (.int 0)) s) (k : Q (.d (.int (max 0 (min (min (w.length : Int) p.lm - p.to) m)))) s) : Call (callF (n + 1)) .x_SendPart .x_new_room [.loc i, .d (.int m)] s Q :=
  ⟨st4 p.st (fun e => ons (snd_st h e) (ons h ⟨hw, ons h (ons h k)⟩)) (fun e => ons (snd_st h e) (ons h ⟨hw, ons h (ons h k)⟩)) (fun e => ons (snd_st h e) (k0 (e ▸ rfl))) fun e => ons (snd_st h e) (k0 (e ▸ rfl))⟩
structure AckR (p : SndP) (lo hi : Int) (e : Bool) (p' : SndP) : Prop where
  to : p'.to = p.to
  lm : p'.lm = p.lm
  ack : ∀ x, Mem x p'.ack ↔ Mem x p.ack ∨ (lo ≤ x ∧ x < hi)
  los : ∀ x, Mem x p'.los ↔ Mem x p.los ∧ ¬ (lo ≤ x ∧ x < hi)
  ea : p'.ea = (e || p.ea)
  oe : p'.oe = (!e && p.oe)
  st : p'.st = .rdy → p.st = .rdy
theorem snd_ack2 {vs : List V} (h : s[i]? = some (sndC w true p)) (hw : w.length ≤ lim) (k : ∀ st', (st' = p.st ∨ p.st = .snt ∧ p.ea = true ∧ (∀ x : Int, 0 ≤ x → x < w.length → Mem x p.ack) ∧ st' = .rcd) → Q (.d .none) (s.set i (sndC w true { p with st := st' }))) :
    wB (callF (n + 1)) (f_SendPart_on_acked.body.drop 3) (some (.loc i) :: vs.map some) none s (kEnd Q) Q := by
  have k0 : Q (.d .none) s := set_same h ▸ k p.st (.inl rfl)
  exact st4 p.st (fun e => ons (snd_st h e) k0) (fun e => ons (snd_st h e) k0) (fun e => ons (snd_st h e) (b2 p.ea (fun f => ons (snd_ea h f) (ons h (ons h ⟨hw, sp_has (fun x => ons h (k _ (.inr ⟨e, f, x, rfl⟩))) fun _ _ => k0⟩))) fun f => ons (snd_ea h f) k0)) fun e => ons (snd_st h e) k0
theorem snd_acked {lo sz : Int} {e : Bool} (h : s[i]? = some (sndC w true p)) (I : SA w p) (h0 : 0 ≤ lo) (h1 : lo + sz ≤ p.to) (k : ∀ p', SA w p' → AckR p lo (lo + sz) e p' → Q (.d .none) (s.set i (sndC w true p'))) :
    Call (callF (n + 2)) .x_SendPart .x_on_acked [.loc i, .d (.int lo), .d (.int sz), .d (.bool e)] s Q := by
  refine ⟨ons h (sp_add I.ca I.b (fun _ => ⟨ltle (by decide) h0, h1⟩) fun a ca ma => ons h (ons (gs_self h) (sp_cut I.cl I.b fun l cl ml => ons (gs_self h) ?_)))⟩
  have fin : ∀ st', (st' = p.st ∨ p.st = .snt ∧ (e || p.ea) = true ∧ (∀ x : Int, 0 ≤ x → x < w.length → Mem x a) ∧ st' = .rcd) → Q (.d .none) (s.set i (sndC w true ⟨p.lm, p.to, st', a, l, !e && p.oe, e || p.ea⟩)) := fun st' q =>
    k _ ⟨I.n, I.t0, I.tN, I.tL, ca, cl, fun x m m2 => ((ma x).mp m2).elim (I.dj x ((ml x).mp m).1) ((ml x).mp m).2, ?_, ?_, ?_, I.l1⟩ ⟨rfl, rfl, ma, ml, rfl, rfl, ?_⟩
  · cases e
    · exact snd_ack2 (vs := [_, _, _]) (p := ⟨p.lm, p.to, p.st, a, l, p.oe, p.ea⟩) (gs_self (gs_self h)) I.wl fun st' q => q_set2 (Q := Q _) (fin st' q)
    · exact ons (gs_self (gs_self h)) (ons (gs_self (gs_self (gs_self h))) (snd_ack2 (vs := [_, _, _]) (p := ⟨p.lm, p.to, p.st, a, l, false, true⟩) (gs_self (gs_self (gs_self (gs_self h)))) I.wl fun st' q => q_set2 (Q := Q _) (q_set2 (Q := Q _) (fin st' q))))
  · intro q
    cases e
    · exact I.oe q
    · cases q
  · intro c
    exact q.elim (fun q => I.op (q ▸ c)) fun q => I.op (q.1 ▸ rfl)
  · intro c
    exact q.elim (fun q => have r := I.rc (q ▸ c); ⟨fun x a b => (ma x).mpr (.inl (r.1 x a b)), by show (e || p.ea) = true; rw [r.2]; exact Bool.or_true e⟩) fun q => ⟨q.2.2.1, q.2.1⟩
  · intro c
    exact q.elim (fun q => q ▸ c) fun q => nomatch q.2.2.2.symm.trans c
end
end
section
structure LosR (p : SndP) (lo hi : Int) (e : Bool) (p' : SndP) : Prop where
  to : p'.to = p.to
  lm : p'.lm = p.lm
  ack : p'.ack = p.ack
  los : ∀ x, Mem x p'.los ↔ Mem x p.los ∨ ((lo ≤ x ∧ x < hi) ∧ ¬ Mem x p.ack)
  ea : p'.ea = p.ea
  oe : p'.oe = (e && !p.ea || p.oe)
  st : p'.st = p.st
section
variable {n : Nat} {s : Store} {i : Nat} {p : SndP} {w : List UInt8} {Q : V → Store → Prop}
structure LoI (w : List UInt8) (p : SndP) (s : Store) (i : Nat) (M : Int → Prop) (r : List Sp) (l : List Sp) (s' : Store) (a : Int) : Prop where
  at_ : s'[i]? = some (sndC w true { p with los := l })
  set : ∀ c, s'.set i c = s.set i c
  cl : Ch p.to l (-1)
  cr : Ch p.to r a
  a : -1 ≤ a
  mem : ∀ x, Mem x l ∨ Mem x r ↔ M x
theorem ite_ev {cf : CF} {X : PV} {x0 : Option V} {r : Slots} {lo sz a b : Int} (h0 : a < lo) (h1 : lo + sz ≤ b) (ab : a ≤ b) (k : ∀ l, Ch b l a → (∀ x, Mem x l ↔ (lo ≤ x ∧ x < lo + sz)) → X (.d (spD l)) s) :
    @Bool.rec (fun _ => Prop) (wE cf (.lst []) (x0 :: some (.d (.int lo)) :: some (.d (.int sz)) :: r) s X) (wE cf (.lst [.tup [.var 1, .bin .add (.var 1) (.var 2)]]) (x0 :: some (.d (.int lo)) :: some (.d (.int sz)) :: r) s X) (decide (0 < sz)) :=
  br (fun c => k [(lo, lo + sz)] ⟨h0, Int.lt_add_of_pos_right lo c, h1⟩ fun x => or_iff_left id) fun c => k [] ab fun x => ⟨nofun, fun q => ln (let' (Int.add_le_add_left (nl c) lo) (Int.le_of_eq (Int.add_zero lo))) (lelt q.1 q.2)⟩
theorem snd_lost2 {lo sz : Int} {e : Bool} (h : s[i]? = some (sndC w true p)) (I : SA w p) (h0 : 0 ≤ lo) (h1 : lo + sz ≤ p.to) (k : ∀ l, Ch p.to l (-1) → (∀ x, Mem x l ↔ Mem x p.los ∨ ((lo ≤ x ∧ x < lo + sz) ∧ ¬ Mem x p.ack)) → Q (.d .none) (s.set i (sndC w true { p with los := l, oe := e && !p.ea || p.oe }))) :
    wB (callF (n + 2)) (f_SendPart_on_lost.body.drop 1) [some (.loc i), some (.d (.int lo)), some (.d (.int sz)), some (.d (.bool e)), none, none] none s (kEnd Q) Q := by
  refine ite_ev (ltle (by decide) h0) h1 (let' (by decide) I.t0) fun l0 c0 m0 => ons h (sp_without c0 I.b I.ca fun o co mo => for_st (A := List Sp × Store × Int) (J := Option V × Option V) (fun _ j => [some (.loc i), some (.d (.int lo)), some (.d (.int sz)), some (.d (.bool e)), j.1, j.2]) (fun _ => none) (fun a => a.2.1)
    (fun r a => LoI w p s i (fun x => Mem x p.los ∨ ((lo ≤ x ∧ x < lo + sz) ∧ ¬ Mem x p.ack)) r a.1 a.2.1 a.2.2) ?_ ?_ (a := (p.los, s, -1)) (j := (none, none)) ⟨h, fun _ => rfl, I.cl, co, Int.le_refl _, fun x => or_congr_right ((mo x).trans (and_congr_left fun _ => m0 x))⟩)
  · intro ⟨l, s', a⟩ j h
    have k := k l h.cl fun x => (or_iff_left id).symm.trans (h.mem x)
    rw [← h.set] at k
    cases e
    · exact set_same h.at_ ▸ k
    · exact b2 p.ea (fun f => ons (snd_ea h.at_ f) (by rw [f] at k; exact set_same (snd_ea h.at_ f) ▸ k)) fun f => ons (snd_ea h.at_ f) (ons h.at_ (by rw [f] at k ⊢; exact k))
  · intro q r K hK ⟨l, s', a⟩ j h
    exact ⟨rfl, ons h.at_ (sp_add h.cl I.b (fun _ => ⟨lelt h.a h.cr.1, h.cr.2.2.ab⟩) fun l' c' m' => ons h.at_ (hK (l', _, q.2) (_, _) ⟨gs_self h.at_, fun c => (List.set_set ..).trans (h.set c), c', h.cr.2.2, let' h.a (lle (ltt h.cr.1 h.cr.2.1)), fun x => ((or_congr_left (m' x)).trans or_assoc).trans (h.mem x)⟩))⟩
theorem snd_lost {lo sz : Int} {e : Bool} (h : s[i]? = some (sndC w true p)) (I : SA w p) (h0 : 0 ≤ lo) (h1 : lo + sz ≤ p.to) (hr : p.st ≠ .rdy) (k : ∀ p', SA w p' → LosR p lo (lo + sz) e p' → Q (.d .none) (s.set i (sndC w true p'))) :
    Call (callF (n + 3)) .x_SendPart .x_on_lost [.loc i, .d (.int lo), .d (.int sz), .d (.bool e)] s Q := by
  have m : ∀ l, Ch p.to l (-1) → (∀ x, Mem x l ↔ Mem x p.los ∨ ((lo ≤ x ∧ x < lo + sz) ∧ ¬ Mem x p.ack)) → Q (.d .none) (s.set i (sndC w true { p with los := l, oe := e && !p.ea || p.oe })) := fun l cl ml =>
    k _ ⟨I.n, I.t0, I.tN, I.tL, I.ca, cl, fun x m => ((ml x).mp m).elim (I.dj x) fun q => q.2, fun c => ?_, I.op, I.rc, I.l1⟩ ⟨rfl, rfl, rfl, ml, rfl, rfl, rfl⟩
  · have main := snd_lost2 (n := n) h I h0 h1 m
    exact ⟨st4 p.st (fun e => absurd e hr) (fun e => ons (snd_st h e) main) (fun e => ons (snd_st h e) main) fun f => ons (snd_st h f) (have r := I.rc f
      set_same h ▸ k p I ⟨rfl, rfl, rfl, fun x => (or_iff_left fun q => q.2 (r.1 x (let' h0 q.1.1) (ltle q.1.2 (let' h1 I.tN)))).symm, rfl, by rw [r.2]; cases e <;> rfl, rfl⟩)⟩
  · show p.ea = false
    have c : (e && !p.ea || p.oe) = true := c
    exact (Bool.or_eq_true_iff.mp c).elim (fun c => (Bool.not_eq_true' _).mp (Bool.and_eq_true_iff.mp c).2) I.oe
end
end
section
structure ChF (w : List UInt8) (p : SndP) (mn lo hi : Int) : Prop where
  lo0 : 0 ≤ lo
  lh : lo ≤ hi
  hN : hi ≤ w.length
  hL : hi ≤ p.lm
  nw : p.to < hi → lo = p.to
  sp : p.to < hi → hi ≤ p.to + mn
  fr : lo < hi → ¬ Mem lo p.ack
structure ChR (w : List UInt8) (p : SndP) (mn lo hi : Int) (e : Bool) (p' : SndP) : Prop where
  f : ChF w p mn lo hi
  en : e = true → hi = w.length
  ne : lo < hi ∨ e = true ∧ p.ea = false
  to : p'.to = max p.to hi
  lm : p'.lm = p.lm
  ack : p'.ack = p.ack
  los : ∀ x, Mem x p'.los ↔ Mem x p.los ∧ ¬ (lo ≤ x ∧ x < hi)
  ea : p'.ea = p.ea
  oe : p'.oe = (!e && p.oe)
  st : p'.st = .snd ∨ p'.st = .snt
def N0 (w : List UInt8) (p : SndP) (mn : Int) : Prop := p.st = .rcd ∨ p.los = [] ∧ (p.to = w.length → p.oe = false) ∧ (p.to < w.length → p.to < p.lm → mn ≤ 0)
section
variable {n : Nat} {s : Store} {i : Nat} {p : SndP} {w : List UInt8} {Q : V → Store → Prop} {mn lo hi : Int} {e : Bool}
theorem brE {A B : Prop} (t : e = true → B) (f : e = false → A) : @Bool.rec (fun _ => Prop) B A (!e) := by cases e; exact f rfl; exact t rfl
theorem snd_los {fin : Bool} (h : s[i]? = some (sndC w fin p)) {x : List Sp} (e : p.los = x) : s[i]? = some (sndC w fin ⟨p.lm, p.to, p.st, p.ack, x, p.oe, p.ea⟩) := e ▸ h
theorem snd_oe {fin : Bool} (h : s[i]? = some (sndC w fin p)) {x : Bool} (e : p.oe = x) : s[i]? = some (sndC w fin ⟨p.lm, p.to, p.st, p.ack, p.los, x, p.ea⟩) := e ▸ h
theorem ch_d {x1 x2 x3 : V} {x5 : Option V} (h : s[i]? = some (sndC w true p)) (I : SA w p) (F : ChF w p mn lo hi) (he : e = true → hi = w.length ∧ (p.oe = true ∨ lo < hi)) (hst : p.st ≠ .rcd) (hne : lo < hi ∨ e = true)
    (k : ∀ p', SA w p' → ChR w p mn lo hi e p' → Q (.d (.tup [.int lo, .bytes (oc w lo hi), .bool e])) (s.set i (sndC w true p'))) :
    wB (callF (n + 1)) (f_SendPart_next_chunk.body.drop 6) [some (.loc i), some x1, some x2, some x3, some (.d (.bool e)), x5, some (.d (.int lo)), some (.d (.int hi))] none s (kEnd Q) Q := by
  have tN := mxle I.tN F.hN
  refine ons h (sp_cut I.cl I.b fun l cl ml => ons h (ons (gs_self h) (ons (gs_self h) ?_)))
  have fin : ∀ st', (st' = .snd ∨ st' = .snt ∧ max p.to hi = w.length) → Q (.d (.tup [.int lo, .bytes (oc w lo hi), .bool e])) (s.set i (sndC w true ⟨p.lm, max p.to hi, st', p.ack, l, !e && p.oe, p.ea⟩)) := fun st' q =>
    k _ ⟨I.n, let' I.t0 mxl, tN, mxle I.tL F.hL, I.ca.mono (Int.le_refl _) mxl, cl.mono (Int.le_refl _) mxl, fun x m => I.dj x ((ml x).mp m).1, fun c => I.oe (Bool.and_eq_true_iff.mp c).2, fun c => q.elim (fun q => nomatch (q ▸ c :)) fun q => q.2, fun c => q.elim (fun q => nomatch (q.symm.trans c)) fun q => (nomatch (q.1.symm.trans c)), I.l1⟩
      ⟨F, fun c => (he c).1, hne.elim .inl fun c => (he c).2.elim (fun o => .inr ⟨c, I.oe o⟩) .inl, rfl, rfl, rfl, ml, rfl, rfl, q.imp id fun q => q.1⟩
  have h2 := gs_self (c := sndC w true ⟨p.lm, max p.to hi, p.st, p.ack, l, p.oe, p.ea⟩) (gs_self (c := sndC w true ⟨p.lm, p.to, p.st, p.ack, l, p.oe, p.ea⟩) h)
  have h0 := let' F.lo0 F.lh
  cases e
  · exact st4 p.st (fun f => ons (snd_st h2 f) (ons h2 (ons (gs_self h2) ⟨F.lo0, h0, I.wl, q_set2 (Q := Q _) (fin .snd (.inl rfl))⟩))) (fun f => ons (snd_st h2 f) (ons h2 (ons (gs_self h2) ⟨F.lo0, h0, I.wl, q_set2 (Q := Q _) (fin .snd (.inl rfl))⟩)))
      (fun f => ons (snd_st h2 f) (ons h2 (ons (gs_self h2) ⟨F.lo0, h0, I.wl, q_set2 (Q := Q _) (fin .snt (.inr ⟨rfl, Int.le_antisymm tN (let' (Int.le_of_eq (I.op (f ▸ rfl)).symm) mxl)⟩))⟩))) fun f => absurd f hst
  · exact ons h2 (ons (gs_self h2) (ons (gs_self (gs_self h2)) ⟨F.lo0, h0, I.wl, q_set2 (Q := Q _) (q_set (Q := Q _) (fin .snt (.inr ⟨rfl, Int.le_antisymm tN (let' (Int.le_of_eq (he rfl).1.symm) mxr)⟩)))⟩))
theorem ch_b {x1 x2 : V} {x5 : Option V} (h : s[i]? = some (sndC w true p)) (I : SA w p) (F : ChF w p mn lo hi) (hst : p.st ≠ .rcd) (k0 : lo = hi → (hi = w.length → p.oe = false) → Q (.d .none) s)
    (k : ∀ e p', SA w p' → ChR w p mn lo hi e p' → Q (.d (.tup [.int lo, .bytes (oc w lo hi), .bool e])) (s.set i (sndC w true p'))) :
    wB (callF (n + 1)) (f_SendPart_next_chunk.body.drop 3) [some (.loc i), some x1, some x2, some (.d (spT (lo, hi))), none, x5, none, none] none s (kEnd Q) Q := by
  have no : (hi = w.length → p.oe = false) → _ := fun q => br (c := lo = hi) (fun c => k0 c q) fun c => ch_d (n := n) (x1 := x1) (x2 := x2) (x3 := .d (spT (lo, hi))) (x5 := x5) (e := false) h I F nofun hst (.inl (Int.lt_iff_le_and_ne.mpr ⟨F.lh, c⟩)) (k _)
  have yes : hi = w.length → (p.oe = true ∨ lo < hi) → _ := fun c q => br (c := lo = hi) (fun _ => ch_d (n := n) (x1 := x1) (x2 := x2) (x3 := .d (spT (lo, hi))) (x5 := x5) (e := true) h I F (fun _ => ⟨c, q⟩) hst (.inr rfl) (k _)) fun _ => ch_d (n := n) (x1 := x1) (x2 := x2) (x3 := .d (spT (lo, hi))) (x5 := x5) (e := true) h I F (fun _ => ⟨c, q⟩) hst (.inr rfl) (k _)
  exact ⟨rfl, ons h (ons h ⟨I.wl, br (fun c => b2 p.oe (fun o => ons (snd_oe h o) (yes c (.inl o))) fun o => ons (snd_oe h o) (br (fun d => yes c (.inr d)) fun d => no fun _ => o)) fun c => no fun d => absurd d c⟩)⟩
theorem lcases {α : Type} {P : Prop} (l : List α) (a : l = [] → P) (b : ∀ x r, l = x :: r → P) : P := by cases l; exact a rfl; exact b _ _ rfl
theorem ChF.new {m r : Int} (I : SA w p) (hn : 0 ≤ mn) (r0 : 0 ≤ r) (rw : r ≤ w.length - p.to) (rl : r ≤ p.lm - p.to) (rm : r ≤ mn) : ChF w p mn p.to (p.to + max 0 (min m r)) := by
  have x : max 0 (min m r) ≤ r := mxle r0 mnr
  exact ⟨I.t0, Int.le_add_of_nonneg_right mxl, Int.add_le_of_le_sub_left (let' x rw), Int.add_le_of_le_sub_left (let' x rl), fun _ => rfl, fun _ => Int.add_le_add_left (let' x rm) _, fun _ m => (Int.lt_irrefl _ (I.ca.mem m).2)⟩
theorem ChF.old {m : Int} {q : Sp} {r : List Sp} (I : SA w p) (hm : 0 < m) (e : p.los = q :: r) : ChF w p mn q.1 (min q.2 (q.1 + m)) ∧ q.1 < min q.2 (q.1 + m) := by
  have c := e ▸ I.cl
  have hq : min q.2 (q.1 + m) ≤ p.to := let' mnl c.2.2.ab
  have lt : q.1 < min q.2 (q.1 + m) := ltmn c.2.1 (Int.lt_add_of_pos_right _ hm)
  exact ⟨⟨c.1, lle lt, let' hq I.tN, let' hq I.tL, fun d => absurd d (ln hq), fun d => absurd d (ln hq), fun _ => I.dj _ (e ▸ .inl ⟨Int.le_refl _, c.2.1⟩)⟩, lt⟩
theorem snd_chunk1 {m : Int} (h : s[i]? = some (sndC w true p)) (I : SA w p) (hm : 0 < m) (hn : 0 ≤ mn) (hst : p.st ≠ .rcd) (k0 : N0 w p mn → Q (.d .none) s)
    (k : ∀ lo hi e p', SA w p' → ChR w p mn lo hi e p' → Q (.d (.tup [.int lo, .bytes (oc w lo hi), .bool e])) (s.set i (sndC w true p'))) :
    wB (callF (n + 2)) (f_SendPart_next_chunk.body.drop 1) [some (.loc i), some (.d (.int m)), some (.d (.int mn)), none, none, none, none, none] none s (kEnd Q) Q := by
  have new : ∀ r x5, p.los = [] → 0 ≤ r → r ≤ w.length - p.to → r ≤ p.lm - p.to → r ≤ mn → (r ≤ 0 → p.to < w.length → p.to < p.lm → mn ≤ 0) → _ := fun r (x5 : Option V) e a b c d z => ch_b (n := n + 1) (x1 := .d (.int m)) (x2 := .d (.int mn)) (x5 := x5) h I (ChF.new (m := m) I hn a b c d) hst
    (fun e1 e2 => k0 (.inr ⟨e, fun e3 => e2 (e1.symm.trans e3), z (nl fun q => Int.ne_of_lt (Int.lt_add_of_pos_right _ (ltle (ltmn hm q) mxr)) e1)⟩)) (k _ _)
  have wt := Int.sub_nonneg.mpr I.tN
  have lt := Int.sub_nonneg.mpr I.tL
  refine lcases p.los (fun e => ons (snd_los h e) (sp_first0 (ons h (snd_room h I.wl (fun o => ons h (ons h (new 0 _ e (Int.le_refl 0) wt lt hn fun _ c => absurd (I.op o) (Int.ne_of_lt c)))) (ons h (ons h (new _ _ e mxl (mxle wt (let' mnl (Int.sub_le_sub_right mnl _))) (mxle lt (let' mnl (Int.sub_le_sub_right mnr _))) (mxle hn mnr) ?_))))))) fun q r e => ?_
  · exact fun z a b => nl fun c => ln z (ltle (ltmn (Int.sub_pos_of_lt (ltmn a b)) c) mxr)
  · have o := ChF.old (mn := mn) I hm e
    exact ons (snd_los h e) (sp_first ((e ▸ I.cl : Ch p.to (q :: r) (-1)).lm I.b) hm (ch_b (n := n + 1) (x1 := .d (.int m)) (x2 := .d (.int mn)) h I o.1 hst (fun c => absurd c (Int.ne_of_lt o.2)) (k _ _)))
theorem snd_chunk {m : Int} (h : s[i]? = some (sndC w true p)) (I : SA w p) (hm : 0 < m) (hn : 0 ≤ mn) (k0 : N0 w p mn → Q (.d .none) s)
    (k : ∀ lo hi e p', SA w p' → ChR w p mn lo hi e p' → Q (.d (.tup [.int lo, .bytes (oc w lo hi), .bool e])) (s.set i (sndC w true p'))) : Call (callF (n + 3)) .x_SendPart .x_next_chunk [.loc i, .d (.int m), .d (.int mn)] s Q :=
  have main := fun c => snd_chunk1 (n := n) h I hm hn c k0 k
  ⟨st4 p.st (fun f => ons (snd_st h f) (main (f ▸ nofun))) (fun f => ons (snd_st h f) (main (f ▸ nofun))) (fun f => ons (snd_st h f) (ons (snd_st h f) (main (f ▸ nofun)))) fun f => ons (snd_st h f) (ons (snd_st h f) (k0 (.inl f)))⟩
end
end
section
inductive Rst where | rcg | siz | dat | red
noncomputable def Rst.n (x : Rst) : N := x.casesOn .x_recv .x_size_known .x_data_recvd .x_data_read
structure Rcv where
  st : Rst
  pcs : List Sp
  rt : Int
  hi : Int
noncomputable def rcvC (w : List UInt8) (lm : Int) (st : Rst) (pcs : List Sp) (rt hi : Int) (fs : Option Int) : Cell := .inst .x_RecvPart [(.x_limit, .d (.int lm)), (.x_state, .d (.str st.n)), (.x_pieces, .d (pcD w pcs)), (.x_read_to, .d (.int rt)), (.x_highest, .d (.int hi)), (.x_final_size, .d (iO fs)),
  (.x_reset_code, .d .none), (.x_stop_code, .d .none)]
noncomputable def fsz (w : List UInt8) (x : Rst) : Option Int := x.casesOn none (some w.length) (some w.length) (some w.length)
noncomputable def rcC (w : List UInt8) (lm : Int) (p : Rcv) : Cell := rcvC w lm p.st p.pcs p.rt p.hi (fsz w p.st)
structure RA (w : List UInt8) (p : Rcv) : Prop where
  pc : Pc w p.rt p.pcs
  r0 : 0 ≤ p.rt
  rN : p.rt ≤ w.length
  h0 : 0 ≤ p.hi
  hN : p.hi ≤ w.length
  siz : p.st = .siz → ∃ z, p.rt ≤ z ∧ z < w.length ∧ ¬ Mem z p.pcs
  dt : p.st = .dat ∨ p.st = .red → ∀ z : Int, p.rt ≤ z → z < w.length → Mem z p.pcs
  red : p.st = .red → p.rt = w.length
  fh : p.st ≠ .rcg → (w.length : Int) ≤ p.hi
theorem rc4 {P : Prop} (x : Rst) (a : x = .rcg → P) (b : x = .siz → P) (c : x = .dat → P) (d : x = .red → P) : P := by cases x; exact a rfl; exact b rfl; exact c rfl; exact d rfl
section
variable {n : Nat} {s : Store} {i : Nat} {w : List UInt8} {lm : Int} {st : Rst} {pcs : List Sp} {rt hh : Int} {fs : Option Int} {Q : V → Store → Prop}
section
variable (h : s[i]? = some (rcvC w lm st pcs rt hh fs))
include h
theorem rcv_st {x : Rst} (e : st = x) : s[i]? = some (rcvC w lm x pcs rt hh fs) := e ▸ h
theorem rcv_raise {l : Int} (k : Q (.d .none) (s.set i (rcvC w (max lm l) st pcs rt hh fs))) : Call (callF (n + 1)) .x_RecvPart .x_raise_limit [.loc i, .d (.int l)] s Q := ⟨ons h (ons h k)⟩
theorem rcv_used (k : Q (.d (.int rt)) s) : Call (callF (n + 1)) .x_RecvPart .x_used_to [.loc i] s Q :=
  ⟨ons h (rc4 st (fun e => ons (rcv_st h e) (ons h k)) (fun e => ons (rcv_st h e) (ons h k)) (fun e => ons (rcv_st h e) (ons h k)) fun e => ons (rcv_st h e) (ons h k))⟩
theorem rcv_check {e : Int} {f : Bool} {ft : V} (h1 : ∀ z, fs = some z → e ≤ z ∧ (f = true → e = z)) (h2 : f = true → hh ≤ e) (h3 : e ≤ lm) (k : Q (.d .none) s) : Call (callF (n + 1)) .x_RecvPart .x_check_end [.loc i, .d (.int e), .d (.bool f), ft] s Q := by
  cases fs with
  | none =>
    cases f
    · exact ⟨ons h (ons h (br_f (ln h3) k))⟩
    · exact ⟨ons h (ons h (br_f (ln (h2 rfl)) (ons h (br_f (ln h3) k))))⟩
  | some z =>
    have h1 := h1 z rfl
    cases f
    · exact ⟨ons h (ons h (br_f (ln h1.1) (ons h (br_f (ln h3) k))))⟩
    · exact ⟨ons h (ons h (br_f (ln h1.1) (ons h (brn_t (h1.2 rfl) (ons h (br_f (ln (h2 rfl)) (ons h (br_f (ln h3) k))))))))⟩
theorem rcv_grown {e : Int} (k : Q (.d (.int (max 0 (e - hh)))) (s.set i (rcvC w lm st pcs rt (max hh e) fs))) : Call (callF (n + 1)) .x_RecvPart .x_grown [.loc i, .d (.int e)] s Q := ⟨ons h (ons h (ons h (by rw [← adm (a := hh) (b := e)] at k; exact k)))⟩
end
theorem rcv_all {z : Int} (h : s[i]? = some (rcvC w lm st pcs rt hh (some z))) (hp : Pc w rt pcs) (h0 : 0 ≤ rt) (hw : w.length ≤ 60) (k1 : (∀ x, rt ≤ x → x < z → Mem x pcs) → Q (.d (.bool true)) s) (k0 : rt < z → ¬ Has rt z pcs → Q (.d (.bool false)) s) : Call (callF (n + 2)) .x_RecvPart .x_has_all [.loc i] s Q :=
  ⟨ons h (ons h (sp_covered hp h0 hw (ons h (ons h (sp_has (n := n) k1 k0)))))⟩
theorem has_of {lo hi : Int} {p : Sp} : ∀ {l : List Sp}, p ∈ l → p.1 ≤ lo → hi ≤ p.2 → Has lo hi l
  | q :: l, m, a, b => (List.mem_cons.mp m).elim (fun e => .inl (e ▸ ⟨a, b⟩)) fun m => .inr (has_of m a b)
theorem sp2_pair {p r : Sp} : ∀ {l : List Sp}, l.Pairwise Sp2 → p ∈ l → r ∈ l → p ≠ r → Sp2 p r
  | q :: l, h, m1, m2, ne => (List.mem_cons.mp m1).elim (fun e1 => (List.mem_cons.mp m2).elim (fun e2 => absurd (e1.trans e2.symm) ne) fun m2 => e1 ▸ (List.pairwise_cons.mp h).1 r m2)
      fun m1 => (List.mem_cons.mp m2).elim (fun e2 => e2 ▸ ((List.pairwise_cons.mp h).1 p m1).symm) fun m2 => sp2_pair (List.pairwise_cons.mp h).2 m1 m2 ne
theorem has_false {A lo hi : Int} {l : List Sp} (h : Pc w A l) (d : lo < hi) (e : ¬ Has lo hi l) : ∃ z, lo ≤ z ∧ z < hi ∧ ¬ Mem z l := by
  apply Classical.byContradiction
  intro c
  have c : ∀ z, lo ≤ z → z < hi → Mem z l := fun z a b => Classical.byContradiction fun d => c ⟨z, a, b, d⟩
  obtain ⟨p, m, p1, p2⟩ := mem_iff.mp (c lo (Int.le_refl _) d)
  have q := nle fun q => e (has_of m p1 q)
  obtain ⟨r, m2, r1, r2⟩ := mem_iff.mp (c p.2 (lle p2) q)
  exact (sp2_pair h.sep m m2 fun e => Int.lt_irrefl _ (e ▸ r2)).elim (fun x => ln r1 x) fun x => ln (lle (ltt x (ltle (h.inn p m).2.1 (Int.le_refl _)))) r2
end
end
section
noncomputable def isRed (x : Rst) : Bool := x.casesOn false false false true
structure RdR (w : List UInt8) (p : Rcv) (most : Int) (p' : Rcv) : Prop where
  le : p.rt ≤ p'.rt
  hi : p'.hi = p.hi
  old : ∀ z, Mem z p.pcs → z < p'.rt ∨ Mem z p'.pcs
  rg : p'.st = .rcg ↔ p.st = .rcg
  set : (w.length : Int) ≤ most → ¬ Mem p'.rt p'.pcs ∧ ¬ (p'.st = .dat ∧ p'.rt = w.length)
section
variable {n : Nat} {s : Store} {i : Nat} {w : List UInt8} {lm : Int} {p : Rcv} {Q : V → Store → Prop} {x e z : Int} {l : List Sp}
theorem rc_st (h : s[i]? = some (rcC w lm p)) {x : Rst} (e : p.st = x) : s[i]? = some (rcvC w lm x p.pcs p.rt p.hi (fsz w x)) := e ▸ h
theorem tk_bd (h : Pc w x l) (hx : x ≤ w.length) (t : TkE x e l []) : x ≤ e ∧ e ≤ w.length := t.elim (fun ⟨p, m, _, a, b⟩ => b ▸ ⟨lle a, (h.inn p m).2.2⟩) fun t => ⟨Int.le_of_eq t.1.symm, let' (Int.le_of_eq t.1) hx⟩
theorem tk_far (h : Pc w x l) (t : TkE x e l []) : ∀ r ∈ tkL x l, e < r.1 := fun r m => by
  have m := List.mem_filter.mp m
  have m1 : x < r.1 := of_decide_eq_true m.2
  exact t.elim (fun ⟨p, mp, a, b, c⟩ => c ▸ (sp2_pair h.sep mp m.1 fun q => ln a (q ▸ m1)).elim id fun d => absurd (ltt (ltt d (lelt a m1)) (h.inn r m.1).2.1) (Int.lt_irrefl _)) fun t => lelt (Int.le_of_eq t.1) m1
theorem tk_mem (h : Pc w x l) (t : TkE x e l []) : Mem z l ↔ (x ≤ z ∧ z < e) ∨ Mem z (tkL x l) := by
  refine mem_iff.trans ⟨fun ⟨p, m, a, b⟩ => ?_, fun q => q.elim (fun q => ?_) fun q => (mem_iff.mp q).imp fun p q => ⟨(List.mem_filter.mp q.1).1, q.2⟩⟩
  · exact if c : x < p.1 then .inr (mem_iff.mpr ⟨p, List.mem_filter.mpr ⟨m, decide_eq_true c⟩, a, b⟩) else .inl ⟨let' (h.inn p m).1 a, t.elim (fun ⟨q, mq, a2, b2, c2⟩ => c2 ▸ Classical.byContradiction fun d =>
      (sp2_pair h.sep m mq fun e => d (e ▸ b)).elim (fun u => ln (let' a2 (let' (h.inn p m).1 (lle (h.inn p m).2.1))) u) fun u => ln (let' (nl c) (lle b2)) u) fun t => (nomatch t.2 p m (nl c) (lelt (let' (h.inn p m).1 a) b))⟩
  · exact t.elim (fun ⟨p, m, a, _, c⟩ => ⟨p, m, let' a q.1, c ▸ q.2⟩) fun t => absurd (ltle (lelt q.1 q.2) (Int.le_of_eq t.1)) (Int.lt_irrefl _)
structure TkR (w : List UInt8) (x most : Int) (l : List Sp) (x' : Int) (l' : List Sp) : Prop where
  le : x ≤ x'
  hN : x' ≤ w.length
  pc : Pc w x' l'
  mem : ∀ z, Mem z l ↔ (x ≤ z ∧ z < x') ∨ Mem z l'
  set : (w.length : Int) ≤ most → ¬ Mem x' l'
theorem tk_full {m : Int} (h : Pc w x l) (hx : x ≤ w.length) (t : TkE x e l []) : TkR w x m l e (tkL x l) :=
  have far := tk_far h t
  ⟨(tk_bd h hx t).1, (tk_bd h hx t).2, ⟨h.sep.sublist List.filter_sublist, fun p m => ⟨lle (far p m), (h.inn p (List.mem_filter.mp m).1).2⟩⟩, fun z => tk_mem h t, fun _ m => let ⟨p, mp, a, _⟩ := mem_iff.mp m; ln a (far p mp)⟩
theorem tk_cut {m : Int} (h : Pc w x l) (h0 : 0 ≤ x) (hx : x ≤ w.length) (t : TkE x e l []) (hm : 0 ≤ m) (c : x + m < e) : TkR w x m l (x + m) ((x + m, e) :: tkL x l) :=
  have f := tk_full (m := m) h hx t
  have xm : x ≤ x + m := Int.le_add_of_nonneg_right hm
  ⟨xm, let' (lle c) f.hN, ⟨List.pairwise_cons.mpr ⟨fun r mr => .inl (tk_far h t r mr), f.pc.sep⟩, fun p mp => (List.mem_cons.mp mp).elim (fun q => q ▸ ⟨Int.le_refl _, c, f.hN⟩) fun mp => ⟨lle (ltt c (tk_far h t p mp)), (f.pc.inn p mp).2⟩⟩,
   fun z => (f.mem z).trans ⟨fun q => q.elim (fun q => if d : z < x + m then .inl ⟨q.1, d⟩ else .inr (.inl ⟨nl d, q.2⟩)) fun q => .inr (.inr q), fun q => q.elim (fun q => .inl ⟨q.1, ltt q.2 c⟩) fun q => q.elim (fun q => .inl ⟨let' xm q.1, q.2⟩) .inr⟩,
   fun d => absurd (ltle c (let' f.hN (let' d (Int.le_add_of_nonneg_left h0)))) (Int.lt_irrefl _)⟩
theorem rd_inv {m x' : Int} {l' : List Sp} {st' : Rst} (I : RA w p) (t : TkR w p.rt m p.pcs x' l') (hs : st' = p.st ∧ ¬ (p.st = .dat ∧ x' = w.length) ∨ p.st = .dat ∧ x' = w.length ∧ st' = .red) : RA w ⟨st', l', x', p.hi⟩ ∧ RdR w p m ⟨st', l', x', p.hi⟩ := by
  have dt : p.st = .dat ∨ p.st = .red → ∀ z : Int, x' ≤ z → z < w.length → Mem z l' := fun d z a b => ((t.mem z).mp (I.dt d z (let' t.le a) b)).elim (fun q => absurd q.2 (ln a)) id
  refine ⟨⟨t.pc, let' I.r0 t.le, t.hN, I.h0, I.hN, fun d => ?_, fun d => ?_, fun d => ?_, fun d => ?_⟩, ⟨t.le, rfl, fun z m => ((t.mem z).mp m).imp And.right id, ?_, fun d => ⟨t.set d, fun q => ?_⟩⟩⟩
  · obtain ⟨z, a, b, c⟩ := I.siz (hs.elim (fun q => q.1 ▸ d) fun q => nomatch q.2.2.symm.trans d)
    exact ⟨z, nl fun q => c ((t.mem z).mpr (.inl ⟨a, q⟩)), b, fun q => c ((t.mem z).mpr (.inr q))⟩
  · exact dt (hs.elim (fun q => q.1 ▸ d) fun q => .inl q.1)
  · exact hs.elim (fun q => Int.le_antisymm t.hN (I.red (q.1 ▸ d) ▸ t.le)) fun q => q.2.1
  · exact I.fh (hs.elim (fun q => q.1 ▸ d) fun q => q.1 ▸ nofun)
  · exact hs.elim (fun q => q.1 ▸ .rfl) fun q => ⟨fun d => (nomatch q.2.2.symm.trans d), fun d => (nomatch q.1.symm.trans d)⟩
  · exact hs.elim (fun h => h.2 ⟨h.1 ▸ q.1, q.2⟩) fun h => nomatch h.2.2.symm.trans q.1
theorem rcv_read3 {m x' X : Int} {l' : List Sp} {v1 v3 : V} {b : List UInt8} (h : s[i]? = some (rcvC w lm p.st l' X p.hi (fsz w p.st))) (hX : X = x')
    (k : ∀ st', (st' = p.st ∧ ¬ (p.st = .dat ∧ x' = w.length) ∨ p.st = .dat ∧ x' = w.length ∧ st' = .red) → Q (.d (.tup [.bytes b, .bool (isRed st')])) (s.set i (rcC w lm ⟨st', l', x', p.hi⟩))) :
    wB (callF (n + 1)) (f_RecvPart_read.body.drop 6) [some (.loc i), some v1, some (.d (.bytes b)), some v3] none s (kEnd Q) Q := by
  subst hX
  have no : ∀ {x : Rst}, p.st = x → x ≠ .dat → Q (.d (.tup [.bytes b, .bool (isRed x)])) s := fun f d => by
    have := k p.st (.inl ⟨rfl, fun q => d (f.symm.trans q.1)⟩)
    rw [show s.set i (rcC w lm ⟨p.st, l', X, p.hi⟩) = s from set_same h, f] at this
    exact this
  have at_ := fun {x : Rst} (f : p.st = x) => (f ▸ h : s[i]? = some (rcvC w lm x l' X p.hi (fsz w x)))
  exact rc4 p.st (fun f => ons (at_ f) (ons (at_ f) (no f nofun))) (fun f => ons (at_ f) (ons (at_ f) (no f nofun)))
    (fun f => ons (at_ f) (ons (at_ f) (ons (at_ f) (br (fun c => ons (at_ f) (ons (gs_self h) (k .red (.inr ⟨f, c, rfl⟩)))) fun c => ons (at_ f) (have := k .dat (.inl ⟨f.symm, fun q => c q.2⟩); set_same (at_ f) ▸ this)))))
    fun f => ons (at_ f) (ons (at_ f) (no f nofun))
theorem rcv_read2 {m x' : Int} {l' : List Sp} {v1 : V} {b : List UInt8} {L : List D} (h : s[i]? = some (rcC w lm p)) (I : RA w p) (hw : w.length ≤ 60) (t : TkR w p.rt m p.pcs x' l') (hb : b = oc w p.rt x') (hL : L = l'.map (pcT w))
    (k : ∀ p', RA w p' → RdR w p m p' → Q (.d (.tup [.bytes (oc w p.rt p'.rt), .bool (isRed p'.st)])) (s.set i (rcC w lm p'))) :
    wB (callF (n + 1)) (f_RecvPart_read.body.drop 4) [some (.loc i), some v1, some (.d (.bytes b)), some (.d (.lst L))] none s (kEnd Q) Q := by
  subst hb hL
  have ol : ∀ {x y}, (oc w x y).length ≤ lim := lm100 (Nat.le_trans oc_le (Nat.le_trans hw (by decide)))
  refine ons h (ons (gs_self h) ⟨ol, ons (gs_self h) (rcv_read3 (m := m) (p := p) (x' := x') (l' := l') (X := p.rt + (oc w p.rt x').length) (gs_self (gs_self h)) (by rw [oc_len I.r0 t.le t.hN, asb]) fun st' q => q_set2 (Q := Q _) ?_)⟩)
  have := rd_inv I t q
  exact k _ this.1 this.2
theorem rcv_read {m : Int} (h : s[i]? = some (rcC w lm p)) (I : RA w p) (hw : w.length ≤ 60) (hm : 0 ≤ m) (k : ∀ p', RA w p' → RdR w p m p' → Q (.d (.tup [.bytes (oc w p.rt p'.rt), .bool (isRed p'.st)])) (s.set i (rcC w lm p'))) :
    Call (callF (n + 2)) .x_RecvPart .x_read [.loc i, .d (.int m)] s Q := by
  have ol : ∀ {x y}, (oc w x y).length ≤ lim := lm100 (Nat.le_trans oc_le (Nat.le_trans hw (by decide)))
  have main : wB (callF (n + 1)) (f_RecvPart_read.body.drop 2) [some (.loc i), some (.d (.int m)), none, none] none s (kEnd Q) Q := by
    refine ons h (ons h (sp_taken I.pc I.r0 hw fun e t => ⟨rfl, ol, br (fun c => ?_) fun c => rcv_read2 h I hw (tk_full (m := m) I.pc I.rN t) rfl rfl k⟩))
    rw [oc_len I.r0 (tk_bd I.pc I.rN t).1 (tk_bd I.pc I.rN t).2] at c
    have c := Int.add_lt_of_lt_sub_left c
    refine ons h ⟨hm, ol, ?_, hm, ol, rcv_read2 h I hw (tk_cut I.pc I.r0 I.rN t hm c) ((oc_take I.r0 hm).trans (by rw [Int.min_eq_right (lle c)])) (congrArg (fun b => D.tup [.int (p.rt + m), .bytes b] :: _) (oc_drop I.r0 hm)) k⟩
    rw [List.length_map]
    exact Nat.le_trans (Nat.add_le_add (Nat.le_refl 1) (Nat.le_trans (List.length_filter_le _ _) (Nat.le_trans (I.pc.len I.r0) hw))) (by decide)
  exact ⟨rc4 p.st (fun f => ons (rc_st h f) (ons (rc_st h f) main)) (fun f => ons (rc_st h f) (ons (rc_st h f) main)) (fun f => ons (rc_st h f) (ons (rc_st h f) main)) fun f => ons (rc_st h f) (ons (rc_st h f) main)⟩
end
end
section
structure GotR (p : Rcv) (lo hi : Int) (e : Bool) (p' : Rcv) : Prop where
  rt : p'.rt = p.rt
  hg : p'.hi = max p.hi hi
  old : ∀ z, Mem z p.pcs → Mem z p'.pcs
  new : ∀ z, lo ≤ z → z < hi → z < p.rt ∨ Mem z p'.pcs
  rg : p'.st = .rcg ↔ p.st = .rcg ∧ e = false
  red : isRed p'.st = isRed p.st
section
variable {n : Nat} {s : Store} {i : Nat} {w : List UInt8} {lm lo hi : Int} {p : Rcv} {e : Bool} {Q : V → Store → Prop}
theorem rcv_os6 {st : Rst} {q : List Sp} {rt hh : Int} {fs : Option Int} {m : Int} {v1 v2 v3 v4 : V} (h : s[i]? = some (rcvC w lm st q rt hh fs)) (hp : Pc w rt q) (h0 : 0 ≤ rt) (hw : w.length ≤ 60) (kn : fs = none → Q (.d (.int m)) s)
    (k1 : ∀ z, fs = some z → (∀ x, rt ≤ x → x < z → Mem x q) → Q (.d (.int m)) (s.set i (rcvC w lm .dat q rt hh (some z)))) (k0 : ∀ z, fs = some z → (∃ x, rt ≤ x ∧ x < z ∧ ¬ Mem x q) → Q (.d (.int m)) (s.set i (rcvC w lm .siz q rt hh (some z)))) :
    wB (callF (n + 3)) (f_RecvPart_on_stream.body.drop 6) [some (.loc i), some v1, some v2, some v3, some v4, some (.d (.int m))] none s (kEnd Q) Q := by
  cases fs with
  | none => exact ons h (kn rfl)
  | some z =>
    have g := gs_self (c := rcvC w lm .siz q rt hh (some z)) h
    exact ons h (ons h (ons g (rcv_all g hp h0 hw (fun x => ons g (q_set (Q := Q _) (k1 z rfl x))) fun c d => k0 z rfl (has_false hp c d))))
theorem rcv_os5 {st : Rst} {q : List Sp} {rt hh : Int} {fs : Option Int} {m : Int} {v3 : V} (h : s[i]? = some (rcvC w lm st q rt hh fs)) (hp : Pc w rt q) (h0 : 0 ≤ rt) (hw : w.length ≤ 60) (lo0 : 0 ≤ lo) (lh : lo ≤ hi) (hN : hi ≤ w.length)
    (k : ∀ q', Pc w rt q' → (∀ z, Mem z q → Mem z q') → (∀ z, lo ≤ z → z < hi → z < rt ∨ Mem z q') → (fs = none → Q (.d (.int m)) (s.set i (rcvC w lm st q' rt hh fs))) ∧ (∀ z, fs = some z → (∀ x, rt ≤ x → x < z → Mem x q') → Q (.d (.int m)) (s.set i (rcvC w lm .dat q' rt hh (some z)))) ∧
      (∀ z, fs = some z → (∃ x, rt ≤ x ∧ x < z ∧ ¬ Mem x q') → Q (.d (.int m)) (s.set i (rcvC w lm .siz q' rt hh (some z))))) :
    wB (callF (n + 3)) (f_RecvPart_on_stream.body.drop 5) [some (.loc i), some (.d (.int lo)), some (.d (.bytes (oc w lo hi))), some v3, some (.d (.int hi)), some (.d (.int m))] none s (kEnd Q) Q := by
  have ol : ∀ {x y}, (oc w x y).length ≤ lim := lm100 (Nat.le_trans oc_le (Nat.le_trans hw (by decide)))
  have same : (∀ z, lo ≤ z → z < hi → z < rt ∨ Mem z q) → _ := fun d => have k := k q hp (fun _ => id) d
    rcv_os6 (n := n) (v1 := .d (.int lo)) (v2 := .d (.bytes (oc w lo hi))) (v3 := v3) (v4 := .d (.int hi)) h hp h0 hw (fun e => set_same h ▸ k.1 e) k.2.1 k.2.2
  have put : ∀ q', Pc w rt q' → (∀ z, Mem z q → Mem z q') → (∀ z, lo ≤ z → z < hi → z < rt ∨ Mem z q') → _ := fun q' hp' a b => have k := k q' hp' a b
    rcv_os6 (n := n) (v1 := .d (.int lo)) (v2 := .d (.bytes (oc w lo hi))) (v3 := v3) (v4 := .d (.int hi)) (gs_self (c := rcvC w lm st q' rt hh fs) h) hp' h0 hw k.1 (fun z e x => q_set (Q := Q _) (k.2.1 z e x)) fun z e x => q_set (Q := Q _) (k.2.2 z e x)
  refine ons h (ons h (br (fun c => ons h (ons h (ons h ⟨mxl, ol, ?_⟩))) fun c => same fun z _ b => .inl (ltle b (nl c))))
  show Call _ _ _ [_, _, .d (.bytes ((oc w lo hi).drop (max 0 (rt - lo)).toNat))] _ _
  rw [oc_drop lo0 mxl, adm]
  exact if d : lo < hi then sp_add_piece hp h0 mxr (mxlt d c) hN hw fun q' hp' m' => ons h (put q' hp' (fun z x => (m' z).mpr (.inl x)) fun z a b => if f : z < rt then .inl f else .inr ((m' z).mpr (.inr ⟨mxle a (nl f), b⟩)))
    else (oc_nil (w := w) (let' (nl d) mxl)).symm ▸ sp_add_none (Nat.le_trans (hp.len h0) (Nat.le_trans hw (by decide))) (ons h (put q hp (fun _ => id) fun z a b => absurd (lelt a b) d))
theorem mx_hi {a b c : Int} (h : a ≤ c) (k : b = c) : max a b = c := by rw [k, Int.max_eq_right h]
theorem got_inv {q : List Sp} {st' : Rst} (I : RA w p) (lo0 : 0 ≤ lo) (hN : hi ≤ w.length) (he : e = true → hi = w.length) (hs : p.st = .rcg ∨ p.st = .siz) (hp : Pc w p.rt q) (a : ∀ z, Mem z p.pcs → Mem z q) (b : ∀ z, lo ≤ z → z < hi → z < p.rt ∨ Mem z q)
    (hst : st' = .rcg ∧ p.st = .rcg ∧ e = false ∨ (e = true ∨ p.st = .siz) ∧ (st' = .dat ∧ (∀ x, p.rt ≤ x → x < w.length → Mem x q) ∨ st' = .siz ∧ ∃ x, p.rt ≤ x ∧ x < w.length ∧ ¬ Mem x q)) : RA w ⟨st', q, p.rt, max p.hi hi⟩ ∧ GotR p lo hi e ⟨st', q, p.rt, max p.hi hi⟩ := by
  have nr : isRed p.st = false := hs.elim (fun f => f ▸ rfl) fun f => f ▸ rfl
  have no : ∀ {x : Rst}, st' = x → x = .red → False := fun f g => hst.elim (fun q => nomatch q.1.symm.trans (f.trans g)) fun q => q.2.elim (fun q => nomatch q.1.symm.trans (f.trans g)) fun q => nomatch q.1.symm.trans (f.trans g)
  refine ⟨⟨hp, I.r0, I.rN, let' I.h0 mxl, mxle I.hN hN, fun f => ?_, fun f z => ?_, fun f => (no f rfl).elim, fun f => ?_⟩, ⟨rfl, rfl, a, b, ⟨fun f => ?_, fun f => ?_⟩, ?_⟩⟩
  · exact hst.elim (fun q => nomatch q.1.symm.trans f) fun q => q.2.elim (fun q => nomatch q.1.symm.trans f) fun q => q.2
  · exact f.elim (fun f => hst.elim (fun q => nomatch q.1.symm.trans f) fun q => q.2.elim (fun q => q.2 z) fun q => nomatch q.1.symm.trans f) fun f => (no f rfl).elim
  · exact hst.elim (fun q => absurd q.1 f) fun q => q.1.elim (fun q => let' (Int.le_of_eq (he q).symm) mxr) fun q => let' (I.fh (q ▸ nofun)) mxl
  · exact hst.elim (fun q => q.2) fun q => q.2.elim (fun q => nomatch q.1.symm.trans f) fun q => nomatch q.1.symm.trans f
  · exact hst.elim (fun q => q.1) fun q => q.1.elim (fun g => nomatch g.symm.trans f.2) fun g => nomatch g.symm.trans f.1
  · exact hst.elim (fun q => q.1 ▸ nr.symm) fun q => q.2.elim (fun q => q.1 ▸ nr.symm) fun q => q.1 ▸ nr.symm
theorem got_shut (I : RA w p) (hN : hi ≤ w.length) (d : p.st = .dat ∨ p.st = .red) : RA w ⟨p.st, p.pcs, p.rt, max p.hi hi⟩ ∧ GotR p lo hi e ⟨p.st, p.pcs, p.rt, max p.hi hi⟩ :=
  ⟨⟨I.pc, I.r0, I.rN, let' I.h0 mxl, mxle I.hN hN, I.siz, I.dt, I.red, fun f => let' (I.fh f) mxl⟩, ⟨rfl, rfl, fun _ => id, fun z _ b => if f : z < p.rt then .inl f else .inr (I.dt d z (nl f) (ltle b hN)), ⟨fun f => (d.elim (fun g => nomatch g.symm.trans f) fun g => nomatch g.symm.trans f), fun f => f.1⟩, rfl⟩⟩
theorem rcv_os1 (h : s[i]? = some (rcC w lm p)) (I : RA w p) (hw : w.length ≤ 60) (lo0 : 0 ≤ lo) (lh : lo ≤ hi) (hN : hi ≤ w.length) (he : e = true → hi = w.length) (hL : hi ≤ lm) (k : ∀ p', RA w p' → GotR p lo hi e p' → Q (.d (.int (max 0 (hi - p.hi)))) (s.set i (rcC w lm p'))) :
    wB (callF (n + 3)) (f_RecvPart_on_stream.body.drop 1) [some (.loc i), some (.d (.int lo)), some (.d (.bytes (oc w lo hi))), some (.d (.bool e)), some (.d (.int hi)), none] none s (kEnd Q) Q := by
  have nz : ∀ {x : Rst}, ∀ z, fsz w x = some z → hi ≤ z ∧ (e = true → hi = z) := fun {x} z f => by cases x <;> cases f <;> exact ⟨hN, he⟩
  have g := gs_self (c := rcvC w lm p.st p.pcs p.rt (max p.hi hi) (fsz w p.st)) h
  have fin : p.st = .rcg ∨ p.st = .siz → ∀ (s' : Store) (fs : Option Int), (∀ z, fs = some z → z = w.length ∧ (e = true ∨ p.st = .siz)) → (fs = none → p.st = .rcg ∧ e = false) → s'[i]? = some (rcvC w lm p.st p.pcs p.rt (max p.hi hi) fs) → (∀ c, s'.set i c = s.set i c) → _ :=
    fun hs s' fs fz fn h' hq => rcv_os5 (n := n) (m := max 0 (hi - p.hi)) (v3 := .d (.bool e)) (Q := Q) h' I.pc I.r0 hw lo0 lh hN fun q hp a b =>
      have inv := fun {st'} => got_inv (st' := st') I lo0 hN he hs hp a b
      ⟨fun f => by have := inv (.inl ⟨rfl, fn f⟩); subst f; have k := k _ this.1 this.2; rw [hq, (fn rfl).1]; exact k,
       fun z f x => by have fz := fz z f; have := inv (.inr ⟨fz.2, .inl ⟨rfl, fz.1 ▸ x⟩⟩); have k := k _ this.1 this.2; rw [hq, fz.1]; exact k,
       fun z f x => by have fz := fz z f; have := inv (.inr ⟨fz.2, .inr ⟨rfl, fz.1 ▸ x⟩⟩); have k := k _ this.1 this.2; rw [hq, fz.1]; exact k⟩
  have shut := fun d => have q := got_shut (lo := lo) (e := e) I hN d; k _ q.1 q.2
  refine ons h (rcv_check h nz (fun f => he f ▸ I.hN) hL (ons h (rcv_grown h (brB (fun f => ons g ?_) fun f => ?_))))
  · have g2 := gs_self (c := rcvC w lm p.st p.pcs p.rt (max p.hi hi) (some hi)) g
    have fin := fun d => fin d _ (some hi) (fun z q => ⟨Option.some.inj q ▸ he f, .inl f⟩) nofun g2 fun c => by rw [List.set_set, List.set_set]
    have shut : p.st = .dat ∨ p.st = .red → Q (.d (.int (max 0 (hi - p.hi)))) ((s.set i (rcvC w lm p.st p.pcs p.rt (max p.hi hi) (fsz w p.st))).set i (rcvC w lm p.st p.pcs p.rt (max p.hi hi) (some hi))) := fun d => by
      rw [List.set_set, he f, ← he f, show some hi = fsz w p.st by rw [he f]; exact d.elim (fun g => g ▸ rfl) fun g => g ▸ rfl]; exact shut d
    exact rc4 p.st (fun d => ons (rcv_st g2 d) (fin (.inl d))) (fun d => ons (rcv_st g2 d) (fin (.inr d))) (fun d => ons (rcv_st g2 d) (shut (.inl d))) fun d => ons (rcv_st g2 d) (shut (.inr d))
  · exact rc4 p.st (fun d => ons (rcv_st g d) (fin (.inl d) _ _ (fun z q => nomatch (d ▸ q : fsz w .rcg = some z)) (fun _ => ⟨d, f⟩) g fun c => List.set_set ..)) (fun d => ons (rcv_st g d) (fin (.inr d) _ _ (fun z q => ⟨Option.some.inj (d ▸ q : fsz w .siz = some z).symm, .inr d⟩) (fun q => nomatch (d ▸ q : fsz w .siz = none)) g fun c => List.set_set ..))
      (fun d => ons (rcv_st g d) (shut (.inl d))) fun d => ons (rcv_st g d) (shut (.inr d))
theorem rcv_stream (h : s[i]? = some (rcC w lm p)) (I : RA w p) (hw : w.length ≤ 60) (lo0 : 0 ≤ lo) (lh : lo ≤ hi) (hN : hi ≤ w.length) (he : e = true → hi = w.length) (hL : hi ≤ lm) (k : ∀ p', RA w p' → GotR p lo hi e p' → Q (.d (.int (max 0 (hi - p.hi)))) (s.set i (rcC w lm p'))) :
    Call (callF (n + 4)) .x_RecvPart .x_on_stream [.loc i, .d (.int lo), .d (.bytes (oc w lo hi)), .d (.bool e)] s Q := by
  have el : lo + ((oc w lo hi).length : Int) = hi := by rw [oc_len lo0 lh hN, asb]
  have main : ∀ X, X = hi → wB (callF (n + 3)) (f_RecvPart_on_stream.body.drop 1) [some (.loc i), some (.d (.int lo)), some (.d (.bytes (oc w lo hi))), some (.d (.bool e)), some (.d (.int X)), none] none s (kEnd Q) Q := fun X q => by rw [q]; exact rcv_os1 h I hw lo0 lh hN he hL k
  exact ⟨⟨lm100 (Nat.le_trans oc_le (Nat.le_trans hw (by decide))), main _ el⟩⟩
end
end
section
theorem cmp_rel {α : Type} {f : D → Store → (Option D → Store → Prop) → Prop} {s : Store} {P : List D → Store → Prop} {l : List α} {g0 : α → D} {R : D → Prop} (h : ∀ a ∈ l, ∀ k : Option D → Store → Prop, (∀ d, R d → k (some d) s) → f (g0 a) s k) (k : ∀ ds, ds.length = l.length → (∀ d ∈ ds, R d) → P ds s) : Cmp f (l.map g0) s P := by
  refine ⟨?_⟩
  induction l generalizing P with
  | nil => exact k [] rfl nofun
  | cons a l ih => exact h a (.head _) _ fun d r => ih (fun a m => h a (.tail _ m)) fun ds e q => k (d :: ds) (congrArg Nat.succ e) fun d' m => (List.mem_cons.mp m).elim (fun e => e ▸ r) (q d')
section
variable {n : Nat} {s : Store} {Q : V → Store → Prop} {m off : Int}
theorem sp_put_whole (h0 : 0 ≤ m) (h1 : m < 64) (k : ∀ u, Q (.d (.bytes [u])) s) : Call (callF (n + 1)) .x_law .x_put_whole [.d (.int m), .d (.int 1)] s Q :=
  ⟨br_f (ln h0) ⟨by decide, ⟨h0, ltt h1 (by decide), by decide⟩, ⟨by decide, by decide⟩, ⟨by decide, ⟨by decide, by decide⟩, by decide, by decide⟩, ⟨⟨by decide, ⟨Int.emod_nonneg _ (by decide), Int.emod_lt_of_pos _ (by decide), by decide, by decide, by decide⟩, by decide, (by decide : 1 ≤ lim), k _⟩⟩⟩⟩
theorem sp_varint_size (h0 : 0 ≤ m) (h1 : m < 64) (k : Q (.d (.int 1)) s) : Call (callF (n + 1)) .x_law .x_varint_size [.d (.int m)] s Q :=
  ⟨⟨br_t h0 ⟨by decide, by decide, br_t (ltle h1 (by decide)) k⟩⟩⟩
theorem sp_varint (h0 : 0 ≤ m) (h1 : m < 64) (k : ∀ u, Q (.d (.bytes [u])) s) : Call (callF (n + 2)) .x_law .x_put_varint [.d (.int m), .d .none] s Q :=
  ⟨sp_varint_size h0 h1 ⟨by decide, by decide, ⟨by decide, h0⟩, sp_put_whole h0 h1 k⟩⟩
theorem joined_1 : ∀ {ds : List D}, (∀ d ∈ ds, ∃ u, d = .bytes [u]) → ∃ b, joined ds = some b ∧ b.length = ds.length
  | [], _ => ⟨[], rfl, rfl⟩
  | d :: r, h => by
    obtain ⟨u, rfl⟩ := h d (.head _)
    obtain ⟨b, e, l⟩ := joined_1 fun d m => h d (.tail _ m)
    exact ⟨u :: b, congrArg (Option.map ([u] ++ ·)) e, congrArg Nat.succ l⟩
theorem sp_numbers {l : List Int} (h : ∀ m ∈ l, 0 ≤ m ∧ m < 64) (hl : l.length ≤ 100) (k : ∀ b : List UInt8, b.length = l.length → Q (.d (.bytes b)) s) : Call (callF (n + 3)) .x_law .x_put_numbers [.d (.lst (l.map .int))] s Q :=
  ⟨⟨(List.length_map (as := l) D.int).symm ▸ lm100 hl, cmp_rel (R := fun d => ∃ u, d = .bytes [u]) (fun m mm K hK => sp_varint (h m mm).1 (h m mm).2 fun u => hK _ ⟨u, rfl⟩) fun ds e q => by
    obtain ⟨b, eb, lb⟩ := joined_1 q
    exact ons eb ⟨⟨lm100 (lb ▸ e ▸ hl), lm100 (e ▸ hl)⟩, k b (lb.trans e)⟩⟩⟩
theorem sp_counted (k : ∀ u, Q (.d (.bytes [u])) s) : Call (callF (n + 3)) .x_law .x_put_counted [.d (.bytes [])] s Q := ⟨⟨by decide, sp_varint (by decide) (by decide) fun u => ⟨(by decide : 1 ≤ lim), k u⟩⟩⟩
theorem all2 {a b : Int} (ha : 0 ≤ a ∧ a < 64) (hb : 0 ≤ b ∧ b < 64) : ∀ m ∈ [a, b], 0 ≤ m ∧ m < 64 := fun _ m => (List.mem_cons.mp m).elim (fun e => e ▸ ha) fun m => List.mem_singleton.mp m ▸ hb
theorem all3 {a b c : Int} (ha : 0 ≤ a ∧ a < 64) (hb : 0 ≤ b ∧ b < 64) (hc : 0 ≤ c ∧ c < 64) : ∀ m ∈ [a, b, c], 0 ≤ m ∧ m < 64 := fun _ m => (List.mem_cons.mp m).elim (fun e => e ▸ ha) fun m => all2 hb hc _ m
section
variable {u : Int} (hu : 0 ≤ u ∧ u < 64) (h0 : 0 ≤ off) (h1 : off < 64)
include hu h0 h1
theorem sp_put_stream (k : ∀ b : List UInt8, b.length ≤ 4 → Q (.d (.bytes b)) s) : Call (callF (n + 4)) .x_law .x_put_stream [.d (.tup [.str .x_stream, .int u, .int off, .bytes [], .bool true]), .d (.bool false)] s Q :=
  ⟨⟨rfl, br (fun c => br_t c ⟨(by decide : 3 ≤ lim), sp_numbers (l := [8 + 1 + 2 + 4, u, off]) (all3 (by decide) hu ⟨h0, h1⟩) (by decide : 3 ≤ 100) fun b e => sp_counted fun v => ⟨Nat.le_trans (Nat.le_of_eq (congrArg (· + 1) e)) (by decide : 4 ≤ lim), k _ (List.length_append ▸ Nat.le_of_eq (congrArg (· + 1) e))⟩⟩)
    fun c => br_f c ⟨(by decide : 2 ≤ lim), sp_numbers (l := [8 + 1 + 2 + 0, u]) (all2 (by decide) hu) (by decide : 2 ≤ 100) fun b e => sp_counted fun v => ⟨Nat.le_trans (Nat.le_of_eq (congrArg (· + 1) e)) (by decide : 3 ≤ lim), k _ (List.length_append ▸ Nat.le_trans (Nat.le_of_eq (congrArg (· + 1) e)) (by decide : 3 ≤ 4))⟩⟩⟩⟩
theorem sp_stream_room {m : Int} (r8 : 8 ≤ m) (r64 : m < 64) (k : ∀ z : Int, 4 ≤ z → Q (.d (.int z)) s) : Call (callF (n + 4)) .x_law .x_stream_room [.d (.int u), .d (.int off), .d (.int m)] s Q := by
  have fin : ∀ b : List UInt8, (b.length : Int) ≤ 3 → 4 ≤ max 0 (m - b.length - 1) := fun b e => let' (Int.sub_le_sub (Int.sub_le_sub r8 e) (Int.le_refl 1)) mxr
  exact ⟨br (fun c => ⟨(by decide : 3 ≤ lim), sp_numbers (l := [8, u, off]) (all3 (by decide) hu ⟨h0, h1⟩) (by decide : 3 ≤ 100) fun b e => ⟨(Nat.le_trans (Nat.le_of_eq e) (by decide : 3 ≤ lim) : b.length ≤ lim), sp_varint (let' (let' (by decide) r8) mxl) (mxlt r64 (by decide)) fun v => ⟨(by decide : 1 ≤ lim), k _ (fin b (Int.ofNat_le.mpr (Nat.le_of_eq e : b.length ≤ 3)))⟩⟩⟩)
    fun c => ⟨(by decide : 2 ≤ lim), sp_numbers (l := [8, u]) (all2 (by decide) hu) (by decide : 2 ≤ 100) fun b e => ⟨(Nat.le_trans (Nat.le_of_eq e) (by decide : 2 ≤ lim) : b.length ≤ lim), sp_varint (let' (let' (by decide) r8) mxl) (mxlt r64 (by decide)) fun v => ⟨(by decide : 1 ≤ lim), k _ (fin b (Int.ofNat_le.mpr (Nat.le_trans (Nat.le_of_eq e) (by decide : 2 ≤ 3))))⟩⟩⟩⟩
theorem sp_frame_size (k : ∀ z : Int, z ≤ 4 → Q (.d (.int z)) s) : Call (callF (n + 6)) .x_law .x_frame_size [.d (.tup [.str .x_stream, .int u, .int off, .bytes [], .bool true])] s Q :=
  ⟨⟨⟨by decide, sp_put_stream hu h0 h1 fun b e => ⟨Nat.le_trans e (by decide), k _ (Int.ofNat_le.mpr e)⟩⟩⟩⟩
end
end
end
section
inductive Od where | n | f | t | ft | tf
noncomputable def Od.has (o : Od) (u : Bool) : Bool := o.casesOn false (!u) u true true
noncomputable def Od.add (o : Od) (u : Bool) : Od := o.casesOn (bif u then .t else .f) (bif u then .ft else .f) (bif u then .t else .tf) .ft .tf
noncomputable def Od.del (o : Od) (u : Bool) : Od := o.casesOn .n (bif u then .f else .n) (bif u then .n else .t) (bif u then .f else .t) (bif u then .f else .t)
noncomputable def sid (u : Bool) : Int := @Bool.rec (fun _ => Int) 0 2 u
noncomputable def role (v : Bool) : N := @Bool.rec (fun _ => N) .x_client .x_server v
noncomputable def dk (f : Bool → V) (o : Od) : List (Key × V) := o.casesOn [] [(.i 0, f false)] [(.i 2, f true)] [(.i 0, f false), (.i 2, f true)] [(.i 2, f true), (.i 0, f false)]
section
variable {f g : Bool → V} {o : Od} {u : Bool} {x : V}
theorem look_dk (h : o.has u = true) : lookK (.i (sid u)) (dk f o) = some (f u) := by cases o <;> cases u <;> first | rfl | cases h
theorem look_no (h : o.has u = false) : lookK (.i (sid u)) (dk f o) = none := by cases o <;> cases u <;> first | rfl | cases h
theorem put_dk (h : ∀ v, v ≠ u → f v = g v) : putK (.i (sid u)) (g u) (dk f o) = dk g (o.add u) := by
  have h1 := h true; have h0 := h false
  cases o <;> cases u <;> first | rfl | exact congrArg (fun x => [(Key.i 2, x), (Key.i 0, g false)]) (h1 nofun) | exact congrArg (fun x => [(Key.i 0, g false), (Key.i 2, x)]) (h1 nofun) | exact congrArg (fun x => [(Key.i 0, x), (Key.i 2, g true)]) (h0 nofun) | exact congrArg (fun x => [(Key.i 2, g true), (Key.i 0, x)]) (h0 nofun)
theorem del_dk : lookK (.i (sid u)) (dk f o) = some x → delK (.i (sid u)) (dk f o) = dk f (o.del u) := by cases o <;> cases u <;> intro h <;> first | rfl | cases h
theorem dk_len : (dk f o).length ≤ 2 := Od.casesOn o (Nat.zero_le 2) (by decide : 1 ≤ 2) (by decide : 1 ≤ 2) (Nat.le_refl 2) (Nat.le_refl 2)
theorem has_add : (o.add u).has u = true := by cases o <;> cases u <;> rfl
theorem has_add' {v : Bool} (h : o.has v = true) : (o.add u).has v = true := by cases o <;> cases u <;> cases v <;> first | rfl | cases h
theorem has_ne {v : Bool} (h : v ≠ u) : (o.add u).has v = o.has v := by cases o <;> cases u <;> cases v <;> first | rfl | exact absurd rfl h
theorem add_has (h : o.has u = true) : o.add u = o := by cases o <;> cases u <;> first | rfl | cases h
end
noncomputable def bup {α : Type} (f : Bool → α) (u : Bool) (x : α) (v : Bool) : α := @Bool.rec (fun _ => α) (@Bool.rec (fun _ => α) x (f true) v) (@Bool.rec (fun _ => α) (f false) x v) u
section
variable {α : Type} {f : Bool → α} {u : Bool} {x : α}
theorem bup_self : bup f u x u = x := by cases u <;> rfl
theorem bup_ne {v : Bool} (h : v ≠ u) : bup f u x v = f v := by cases u <;> cases v <;> first | rfl | exact absurd rfl h
theorem bup_all {P : Bool → α → Prop} (h1 : P u x) (h2 : ∀ v, v ≠ u → P v (f v)) (v : Bool) : P v (bup f u x v) := by cases u <;> cases v <;> first | exact h1 | exact h2 _ nofun
end
theorem bup_all2 {α β : Type} {f : Bool → α} {g : Bool → β} {u : Bool} {x : α} {y : β} {P : Bool → α → β → Prop} (h1 : P u x y) (h2 : ∀ v, v ≠ u → P v (f v) (g v)) (v : Bool) : P v (bup f u x v) (bup g u y v) := by cases u <;> cases v <;> first | exact h1 | exact h2 _ nofun
noncomputable def cP (o : Od) (A B : List Cell) : List Cell := o.casesOn [] A B (A ++ B) (B ++ A)
noncomputable def cb (o : Od) : Nat := o.casesOn 0 3 1 4 4
noncomputable def cO (o : Od) (u : Bool) : Nat := o.casesOn 0 0 0 (bif u then 3 else 0) (bif u then 0 else 1)
noncomputable def sO (o : Od) (u : Bool) : Nat := o.casesOn 0 0 0 (bif u then 3 else 0) (bif u then 0 else 2)
section
variable {o : Od} {a b c d e x : Cell} {R : List Cell}
theorem cP_R {k : Nat} : (cP o [a, b, c] [d] ++ R)[cb o + k]? = R[k]? := by cases o <;> (rw [Nat.add_comm]; rfl)
theorem cP_f (h : o.has false = true) : (cP o [a, b, c] [d] ++ R)[cO o false]? = some a ∧ (cP o [a, b, c] [d] ++ R)[cO o false + 1]? = some b ∧ (cP o [a, b, c] [d] ++ R)[cO o false + 2]? = some c := by cases o <;> first | exact ⟨rfl, rfl, rfl⟩ | cases h
theorem cP_t (h : o.has true = true) : (cP o [a, b, c] [d] ++ R)[cO o true]? = some d := by cases o <;> first | rfl | cases h
theorem cP_fs (h : o.has false = true) : (cP o [a, b, c] [d] ++ R).set (cO o false) x = cP o [x, b, c] [d] ++ R := by cases o <;> first | rfl | cases h
theorem cP_ts (h : o.has true = true) : (cP o [a, b, c] [d] ++ R).set (cO o true) x = cP o [a, b, c] [x] ++ R := by cases o <;> first | rfl | cases h
theorem cP_Rs {k : Nat} : (cP o [a, b, c] [d] ++ R).set (cb o + k) x = cP o [a, b, c] [d] ++ R.set k x := by cases o <;> (rw [Nat.add_comm]; rfl)
theorem sP_f (h : o.has false = true) : (cP o [a, b, c] [d, e])[sO o false]? = some a ∧ (cP o [a, b, c] [d, e])[sO o false + 1]? = some b ∧ (cP o [a, b, c] [d, e])[sO o false + 2]? = some c := by cases o <;> first | exact ⟨rfl, rfl, rfl⟩ | cases h
theorem sP_t (h : o.has true = true) : (cP o [a, b, c] [d, e])[sO o true]? = some d ∧ (cP o [a, b, c] [d, e])[sO o true + 1]? = some e := by cases o <;> first | exact ⟨rfl, rfl⟩ | cases h
theorem sP_fs (h : o.has false = true) : (cP o [a, b, c] [d, e]).set (sO o false + 1) x = cP o [a, x, c] [d, e] ∧ (cP o [a, b, c] [d, e]).set (sO o false + 2) x = cP o [a, b, x] [d, e] := by cases o <;> first | exact ⟨rfl, rfl⟩ | cases h
theorem sP_ts (h : o.has true = true) : (cP o [a, b, c] [d, e]).set (sO o true) x = cP o [a, b, c] [x, e] ∧ (cP o [a, b, c] [d, e]).set (sO o true + 1) x = cP o [a, b, c] [d, x] := by cases o <;> first | exact ⟨rfl, rfl⟩ | cases h
end
end
section
structure Par where
  md : Int
  bl : Int
  br : Int
  un : Int
structure Win where
  sz : Int
  lm : Int
  got : Int
  usd : Int
  ow : Bool
noncomputable def winW (x : Win) : Cell := winC x.sz x.lm x.got x.usd x.ow
inductive Fr where
  | st (u : Bool) (lo hi : Int) (e : Bool) | md (l : Int) | msd (u : Bool) (l : Int) | sdb (u : Bool) (l : Int) | db (l : Int)
noncomputable abbrev Fly := List (Bool × Fr × Bool)
noncomputable def parC (p : Par) : Cell := .dict [(.s .x_initial_max_data, .d (.int p.md)), (.s .x_initial_max_streams_bidi, .d (.int 1)), (.s .x_initial_max_streams_uni, .d (.int 1)), (.s .x_initial_max_stream_data_bidi_local, .d (.int p.bl)),
  (.s .x_initial_max_stream_data_bidi_remote, .d (.int p.br)), (.s .x_initial_max_stream_data_uni, .d (.int p.un))]
noncomputable def twoC (a b : Int) : Cell := .lst [.d (.int a), .d (.int b)]
noncomputable def b01 (b : Bool) : Int := @Bool.rec (fun _ => Int) 0 1 b
noncomputable def setC (v : Bool) (a b c : Nat) (t : Int) : Cell := .inst .x_StreamSet [(.x_role, .d (.str (role v))), (.x_params, .loc a), (.x_peer, .loc b), (.x_ids, .loc c), (.x_credit, .loc (c + 7)), (.x_window, .loc (c + 8)), (.x_senders, .loc (c + 9)), (.x_readers, .loc (c + 10)), (.x_windows, .loc (c + 11)),
  (.x_owed, .d (.lst [])), (.x_blocked_at, .loc (c + 12)), (.x_events, .loc (c + 13)), (.x_over, .loc (c + 14)), (.x_turn, .d (.int t))]
noncomputable def idsC (v : Bool) (c : Nat) : Cell := .inst .x_StreamIds [(.x_role, .d (.str (role v))), (.x_own_limits, .loc (c + 1)), (.x_peer_limits, .loc (c + 2)), (.x_own_many, .loc (c + 3)), (.x_peer_many, .loc (c + 4)), (.x_closed_many, .loc (c + 5)), (.x_granted, .loc (c + 6))]
noncomputable def fSt (w : List UInt8) (u : Bool) (lo hi : Int) (e : Bool) : D := .tup [.str .x_stream, .int (sid u), .int lo, .bytes (oc w lo hi), .bool e]
noncomputable def frD (wr : Bool → List UInt8) (f : Fr) : D := f.casesOn (fun u lo hi e => fSt (wr u) u lo hi e) (fun l => .tup [.str .x_max_data, .int l]) (fun u l => .tup [.str .x_max_stream_data, .int (sid u), .int l]) (fun u l => .tup [.str .x_stream_data_blocked, .int (sid u), .int l]) fun l => .tup [.str .x_data_blocked, .int l]
noncomputable def flD (wr : Bool → List UInt8) (x : Bool × Fr × Bool) : D := .lst [.int (b01 x.1), frD wr x.2.1, .bool x.2.2]
structure Wd where
  pa : Int
  sc : List Int
  pi : Int
  p0 : Par
  p1 : Par
  turn : Int
  ord : Od
  wr : Bool → List UInt8
  cl : Int
  cu : Int
  ct : Option Int
  snd : Bool → SndP
  bk : Od
  bz : Bool → Int
  kno : Od
  rlm : Bool → Int
  rcv : Bool → Rcv
  win : Bool → Win
  wi : Win
  log : Nat
  lall : Int
  lims : Bool → Int
  sk : Od
  sent : Bool → Int
  rk : Od
  rd : Bool → Int
  vk : Od
  ovr : Bool → Bool
  fly : Fly
noncomputable def rcv0 : Rcv := ⟨.rcg, [], 0, 0⟩
noncomputable def snd0 (l : Int) : SndP := ⟨l, 0, .rdy, [], [], false, false⟩
noncomputable def win0 (l : Int) : Win := ⟨l, l, 0, 0, false⟩
noncomputable def aS (o : Od) (u : Bool) : Nat := cO o u + 39
noncomputable def aR (o k : Od) (u : Bool) : Nat := cb o + (sO k u + (@Bool.rec (fun _ => Nat) 44 43 u))
noncomputable def aW (o k : Od) (u : Bool) : Nat := cb o + (sO k u + (@Bool.rec (fun _ => Nat) 45 44 u))
noncomputable def wldC (o : Od) (wr : Bool → List UInt8) (F : Fly) : Cell := .dict [(.s .x_hosts, .loc 36), (.s .x_written, .loc 37), (.s .x_read, .loc (cb o + 40)), (.s .x_over, .loc (cb o + 41)), (.s .x_limits, .loc 38), (.s .x_sent, .loc (cb o + 42)), (.s .x_flying, .d (.lst (F.map (flD wr))))]
noncomputable def limC (o : Od) (a : Int) (l : Bool → Int) : Cell := .dict ((.s .x_all, .d (.int a)) :: dk (fun u => .d (.int (l u))) o)
noncomputable def wriL (o : Od) (wr : Bool → List UInt8) : List (Key × V) := dk (fun u => .d (.bytes (wr u))) o
noncomputable def rdC (o : Od) (wr : Bool → List UInt8) (r : Bool → Int) : Cell := .dict (dk (fun u => .d (.bytes (oc (wr u) 0 (r u)))) o)
noncomputable def ovC (o : Od) (v : Bool → Bool) : Cell := .dict (dk (fun u => .d (.bool (v u))) o)
noncomputable def inC (o : Od) (z : Bool → Int) : Cell := .dict (dk (fun u => .d (.int (z u))) o)
noncomputable def ff (o : Od) : Od := o.casesOn .n .f .n .f .f
noncomputable def stP (W : Wd) (T : List Cell) : Store :=
  .lst [.d (.int W.pa), .d (.lst (W.sc.map .int)), .d (.int W.pi)] :: parC W.p0 :: parC W.p1 :: .lst [.loc 1, .loc 2] ::
  setC false 1 2 5 W.turn :: idsC false 5 :: twoC 1 1 :: twoC 1 1 :: twoC (b01 (W.ord.has false)) (b01 (W.ord.has true)) :: twoC 0 0 :: twoC 0 0 :: twoC 1 1 :: crC W.cl W.cu W.ct :: winW (win0 W.p0.md) ::
  .dict (dk (fun u => .loc (aS W.ord u)) W.ord) :: .dict (dk (fun u => .loc (aS W.ord u + 1)) (ff W.ord)) :: .dict (dk (fun u => .loc (aS W.ord u + 2)) (ff W.ord)) :: inC W.bk W.bz :: .log 0 :: .dict [] ::
  setC true 2 1 21 0 :: idsC true 21 :: twoC 1 1 :: twoC 1 1 :: twoC 0 0 :: twoC (b01 (W.kno.has false)) (b01 (W.kno.has true)) :: twoC 0 0 :: twoC 1 1 :: crC W.p0.md 0 none :: winW W.wi ::
  .dict (dk (fun u => .loc (cb W.ord + (sO W.kno u + 43))) (ff W.kno)) :: .dict (dk (fun u => .loc (aR W.ord W.kno u)) W.kno) :: .dict (dk (fun u => .loc (aW W.ord W.kno u)) W.kno) :: .dict [] :: .log W.log :: .dict [] ::
  .lst [.loc 4, .loc 20] :: .dict (wriL W.ord W.wr) :: limC W.ord W.lall W.lims :: T
noncomputable def srvL (W : Wd) : List Cell := cP W.kno [sndC [] false (snd0 W.p0.bl), rcC (W.wr false) (W.rlm false) (W.rcv false), winW (W.win false)] [rcC (W.wr true) (W.rlm true) (W.rcv true), winW (W.win true)]
noncomputable def cliL (W : Wd) : List Cell := cP W.ord [sndC (W.wr false) true (W.snd false), rcC [] W.p0.bl rcv0, winW (win0 W.p0.bl)] [sndC (W.wr true) true (W.snd true)]
noncomputable def stOf (W : Wd) : Store := stP W (cliL W ++ wldC W.ord W.wr W.fly :: rdC W.rk W.wr W.rd :: ovC W.vk W.ovr :: inC W.sk W.sent :: srvL W)
section
variable {W : Wd} {u : Bool}
theorem look_w : (stOf W)[cb W.ord + 39]? = some (wldC W.ord W.wr W.fly) := cP_R (k := 0)
theorem look_rd : (stOf W)[cb W.ord + 40]? = some (rdC W.rk W.wr W.rd) := cP_R (k := 1)
theorem look_ov : (stOf W)[cb W.ord + 41]? = some (ovC W.vk W.ovr) := cP_R (k := 2)
theorem look_se : (stOf W)[cb W.ord + 42]? = some (inC W.sk W.sent) := cP_R (k := 3)
theorem look_snd (h : W.ord.has u = true) : (stOf W)[aS W.ord u]? = some (sndC (W.wr u) true (W.snd u)) := by cases u; exact (cP_f h).1; exact cP_t h
theorem look_cr (h : W.ord.has false = true) : (stOf W)[aS W.ord false + 1]? = some (rcC [] W.p0.bl rcv0) := (cP_f h).2.1
theorem look_cw (h : W.ord.has false = true) : (stOf W)[aS W.ord false + 2]? = some (winW (win0 W.p0.bl)) := (cP_f h).2.2
theorem look_ss (h : W.kno.has false = true) : (stOf W)[cb W.ord + (sO W.kno false + 43)]? = some (sndC [] false (snd0 W.p0.bl)) := (cP_R (k := sO W.kno false + 4)).trans (sP_f h).1
theorem look_rcv (h : W.kno.has u = true) : (stOf W)[aR W.ord W.kno u]? = some (rcC (W.wr u) (W.rlm u) (W.rcv u)) := by cases u; exact (cP_R (k := sO W.kno false + 1 + 4)).trans (sP_f h).2.1; exact (cP_R (k := sO W.kno true + 4)).trans (sP_t h).1
theorem look_win (h : W.kno.has u = true) : (stOf W)[aW W.ord W.kno u]? = some (winW (W.win u)) := by cases u; exact (cP_R (k := sO W.kno false + 2 + 4)).trans (sP_f h).2.2; exact (cP_R (k := sO W.kno true + 1 + 4)).trans (sP_t h).2
theorem set_snd (h : W.ord.has u = true) (p : SndP) : (stOf W).set (aS W.ord u) (sndC (W.wr u) true p) = stOf { W with snd := bup W.snd u p } := by cases u; exact congrArg (stP W) (cP_fs h); exact congrArg (stP W) (cP_ts h)
theorem set_w (F : Fly) : (stOf W).set (cb W.ord + 39) (wldC W.ord W.wr F) = stOf { W with fly := F } := congrArg (stP W) (cP_Rs (k := 0))
theorem set_rd (o : Od) (r : Bool → Int) : (stOf W).set (cb W.ord + 40) (rdC o W.wr r) = stOf { W with rk := o, rd := r } := congrArg (stP W) (cP_Rs (k := 1))
theorem set_ov (o : Od) (r : Bool → Bool) : (stOf W).set (cb W.ord + 41) (ovC o r) = stOf { W with vk := o, ovr := r } := congrArg (stP W) (cP_Rs (k := 2))
theorem set_se (o : Od) (r : Bool → Int) : (stOf W).set (cb W.ord + 42) (inC o r) = stOf { W with sk := o, sent := r } := congrArg (stP W) (cP_Rs (k := 3))
theorem set_rcv (h : W.kno.has u = true) (p : Rcv) : (stOf W).set (aR W.ord W.kno u) (rcC (W.wr u) (W.rlm u) p) = stOf { W with rcv := bup W.rcv u p } := by
  cases u
  · exact congrArg (stP W) ((cP_Rs (k := sO W.kno false + 1 + 4)).trans (congrArg (fun T => cliL W ++ _ :: _ :: _ :: _ :: T) (sP_fs h).1))
  · exact congrArg (stP W) ((cP_Rs (k := sO W.kno true + 4)).trans (congrArg (fun T => cliL W ++ _ :: _ :: _ :: _ :: T) (sP_ts h).1))
theorem set_rlm (h : W.kno.has u = true) (l : Int) : (stOf W).set (aR W.ord W.kno u) (rcC (W.wr u) l (W.rcv u)) = stOf { W with rlm := bup W.rlm u l } := by
  cases u
  · exact congrArg (stP W) ((cP_Rs (k := sO W.kno false + 1 + 4)).trans (congrArg (fun T => cliL W ++ _ :: _ :: _ :: _ :: T) (sP_fs h).1))
  · exact congrArg (stP W) ((cP_Rs (k := sO W.kno true + 4)).trans (congrArg (fun T => cliL W ++ _ :: _ :: _ :: _ :: T) (sP_ts h).1))
theorem set_win (h : W.kno.has u = true) (x : Win) : (stOf W).set (aW W.ord W.kno u) (winW x) = stOf { W with win := bup W.win u x } := by
  cases u
  · exact congrArg (stP W) ((cP_Rs (k := sO W.kno false + 2 + 4)).trans (congrArg (fun T => cliL W ++ _ :: _ :: _ :: _ :: T) (sP_fs h).2))
  · exact congrArg (stP W) ((cP_Rs (k := sO W.kno true + 1 + 4)).trans (congrArg (fun T => cliL W ++ _ :: _ :: _ :: _ :: T) (sP_ts h).2))
end
end
section
theorem sid_lt (u : Bool) : 0 ≤ sid u ∧ sid u < 64 := by cases u <;> decide
section
variable {n : Nat} {W : Wd} {u : Bool} {room : Int} {Q : V → Store → Prop}
theorem df_client (hu : W.ord.has u = true) (I : SA (W.wr u) (W.snd u)) (hc : W.cu ≤ W.cl) (r8 : 8 ≤ room) (r64 : room < 64) (k0 : N0 (W.wr u) (W.snd u) (W.cl - W.cu) → Q (.d .none) (stOf W))
    (k : ∀ lo hi e p', SA (W.wr u) p' → ChR (W.wr u) (W.snd u) (W.cl - W.cu) lo hi e p' → Q (.d (fSt (W.wr u) u lo hi e)) (stOf { W with snd := bup W.snd u p', cu := W.cu + max 0 (p'.to - (W.snd u).to) })) :
    Call (callF (n + 7)) .x_StreamSet .x_data_frame [.loc 4, .d (.int (sid u)), .d (.int room)] (stOf W) Q := by
  have L := look_snd hu
  have hm := sid_lt u
  have t64 : (W.snd u).to < 64 := lelt I.tN (lelt I.n (by decide))
  have c0 := Int.sub_nonneg.mpr hc
  refine ⟨ons (look_dk hu) (ons L (sp_frame_size hm I.t0 t64 fun z hz => br_f (ln (let' hz (let' (by decide) r8))) (ons L (ons L (ons L (sp_stream_room (n := n + 2) hm I.t0 t64 r8 r64 fun m h4 => cr_room (cl := W.cl) (cu := W.cu) (ct := W.ct) rfl (snd_chunk L I (ltle (by decide) h4) c0 k0 fun lo hi e p' I' C => ons (gs_self L) (cr_spend (cl := W.cl) (cu := W.cu) (ct := W.ct) rfl (ln (mxle c0 ?_)) ?_))))))))⟩
  · refine Int.sub_left_le_of_le_add ?_
    rw [C.to]
    exact mxle (Int.le_add_of_nonneg_right c0) (if d : (W.snd u).to < hi then C.f.sp d else let' (nl d) (Int.le_add_of_nonneg_right c0))
  · rw [set_snd hu]
    exact ⟨by decide, by decide, by decide, k lo hi e p' I' C⟩
end
end
section
noncomputable def forB (x : Option S) : List S := x.casesOn [] fun x => S.casesOn x [] (fun _ _ => []) (fun _ _ => []) (fun _ _ => []) (fun _ _ _ => []) (fun _ _ => []) (fun _ _ => []) (fun _ => []) (fun _ _ _ => []) (fun _ _ _ _ b => b) (fun _ b => b) (fun _ => []) [] (fun b => b) (fun _ => []) (fun _ _ => []) (fun _ _ => []) (fun _ _ _ => []) [] (fun _ => []) fun _ _ _ _ _ _ _ => []
theorem sortK {f : Bool → V} {o : Od} {P : D → Prop} (k0 : (∀ u, o.has u = false) → P (.lst [])) (k1 : ∀ u, o.has u = true → (∀ v, v ≠ u → o.has v = false) → P (.lst [.int (sid u)])) (k2 : (∀ u, o.has u = true) → P (.lst [.int 0, .int 2])) :
    @Option.rec (List Int) (fun _ => Prop) False (fun k => (dk f o).length ≤ 2 ∧ P (.lst ((sortI k).map .int))) (asInts ((dk f o).map fun p => p.1.d)) := by
  cases o
  · exact ⟨Nat.zero_le 2, k0 fun _ => rfl⟩
  · exact ⟨(by decide : 1 ≤ 2), k1 false rfl fun v h => by cases v; exact absurd rfl h; rfl⟩
  · exact ⟨(by decide : 1 ≤ 2), k1 true rfl fun v h => by cases v; rfl; exact absurd rfl h⟩
  · exact ⟨Nat.le_refl 2, k2 fun _ => rfl⟩
  · exact ⟨Nat.le_refl 2, k2 fun _ => rfl⟩
section
variable {n : Nat} {W : Wd} {u : Bool} {room : Int} {Q : V → Store → Prop}
structure NdR (W : Wd) (u : Bool) (lo hi : Int) (e : Bool) (p' : SndP) : Prop where
  has : W.ord.has u = true
  sa : SA (W.wr u) p'
  ch : ChR (W.wr u) (W.snd u) (W.cl - W.cu) lo hi e p'
noncomputable def dataW (W : Wd) (u : Bool) (p' : SndP) (t : Int) : Wd := { W with snd := bup W.snd u p', cu := W.cu + max 0 (p'.to - (W.snd u).to), turn := t }
theorem nd_step {l : List D} {j : Int} {x3 x4 x5 : Option V} {K' : K} (hu : W.ord.has u = true) (I : SA (W.wr u) (W.snd u)) (hc : W.cu ≤ W.cl) (r8 : 8 ≤ room) (r64 : room < 64) (hl : 0 < l.length) (hl2 : l.length ≤ 2) (hi : l[((W.turn + j) % l.length).toNat]? = some (.int (sid u)))
    (k0 : N0 (W.wr u) (W.snd u) (W.cl - W.cu) → ∀ x4 x5, K' [some (.loc 4), some (.d (.int room)), some (.d (.lst l)), some (.d (.int j)), x4, x5] none (stOf W))
    (k : ∀ lo hi e p' t, NdR W u lo hi e p' → Q (.d (fSt (W.wr u) u lo hi e)) (stOf (dataW W u p' t))) :
    forF (wB (callF (n + 7)) (forB f_StreamSet_next_data.body[1]?)) [3] false Q (.int j) [some (.loc 4), some (.d (.int room)), some (.d (.lst l)), x3, x4, x5] none (stOf W) K' := by
  have lm : l.length ≤ lim := Nat.le_trans hl2 (by decide)
  have l0 : (0 : Int) < l.length := Int.ofNat_lt.mpr hl
  exact ⟨lm, l0, ⟨Int.emod_nonneg _ (Int.ne_of_gt l0), ltt (Int.emod_lt_of_pos _ l0) (Int.ofNat_lt.mpr (Nat.lt_of_le_of_lt hl2 (by decide : 2 < 1000000)))⟩, ons hi (df_client hu I hc r8 r64 (fun c => k0 c _ _) fun lo hi e p' I' C => ⟨lm, l0, k lo hi e p' ((W.turn + j + 1) % l.length) ⟨hu, I', C⟩⟩)⟩
theorem nd_two {u0 : Bool} {x3 x4 x5 : Option V} {K' : K} (I : ∀ u, SA (W.wr u) (W.snd u)) (hu : ∀ u, W.ord.has u = true) (hc : W.cu ≤ W.cl) (r8 : 8 ≤ room) (r64 : room < 64) (a : [D.int 0, .int 2][((W.turn + 0) % 2).toNat]? = some (.int (sid u0))) (b : [D.int 0, .int 2][((W.turn + (0 + 1)) % 2).toNat]? = some (.int (sid !u0)))
    (k0 : (∀ u, W.ord.has u = true → N0 (W.wr u) (W.snd u) (W.cl - W.cu)) → ∀ x3 x4 x5, K' [some (.loc 4), some (.d (.int room)), some (.d (.lst [.int 0, .int 2])), x3, x4, x5] none (stOf W)) (k : ∀ u lo hi e p' t, NdR W u lo hi e p' → Q (.d (fSt (W.wr u) u lo hi e)) (stOf (dataW W u p' t))) :
    forL (forF (wB (callF (n + 7)) (forB f_StreamSet_next_data.body[1]?)) [3] false Q) [.int 0, .int (0 + 1)] [some (.loc 4), some (.d (.int room)), some (.d (.lst [.int 0, .int 2])), x3, x4, x5] none (stOf W) K' :=
  nd_step (l := [.int 0, .int 2]) (u := u0) (hu _) (I _) hc r8 r64 (by decide : 0 < 2) (Nat.le_refl 2) a (fun c x4 x5 => nd_step (l := [.int 0, .int 2]) (u := !u0) (hu _) (I _) hc r8 r64 (by decide : 0 < 2) (Nat.le_refl 2) b
    (fun d x4 x5 => k0 (fun v _ => if e : v = u0 then e ▸ c else (by cases v <;> cases u0 <;> first | exact d | exact absurd rfl e)) _ x4 x5) (k _)) (k _)
theorem sm1 : small 1 := ⟨by decide, by decide⟩
theorem sm2 : small 2 := ⟨by decide, by decide⟩
theorem nd_client (I : ∀ u, SA (W.wr u) (W.snd u)) (hc : W.cu ≤ W.cl) (r8 : 8 ≤ room) (r64 : room < 64) (k0 : (∀ u, W.ord.has u = true → N0 (W.wr u) (W.snd u) (W.cl - W.cu)) → Q (.d .none) (stOf W))
    (k : ∀ u lo hi e p' t, NdR W u lo hi e p' → Q (.d (fSt (W.wr u) u lo hi e)) (stOf (dataW W u p' t))) :
    Call (callF (n + 8)) .x_StreamSet .x_next_data [.loc 4, .d (.int room)] (stOf W) Q := by
  refine ⟨sortK (fun c => ⟨Nat.zero_le _, ⟨by decide, by decide⟩, ⟨k0 fun u hu => nomatch (c u).symm.trans hu⟩⟩) (fun u hu hn => ⟨(by decide : 1 ≤ lim), sm1, ⟨?_⟩⟩) fun hu => ⟨(by decide : 2 ≤ lim), sm2, ⟨?_⟩⟩⟩
  · refine nd_step (l := [.int (sid u)]) (u := u) hu (I u) hc r8 r64 (by decide : 0 < 1) (by decide : 1 ≤ 2) ?_ (fun c x4 x5 => k0 fun v hv => if e : v = u then e ▸ c else nomatch (hn v e).symm.trans hv) (k u)
    rw [show (([D.int (sid u)] : List D).length : Int) = 1 from rfl, Int.emod_one]; rfl
  · rcases Int.emod_two_eq (W.turn + 0) with e | e
    · exact nd_two (u0 := false) I hu hc r8 r64 (by rw [e]; rfl) (by rw [← Int.add_assoc, Int.add_emod, e]; rfl) (fun c _ _ _ => k0 c) k
    · exact nd_two (u0 := true) I hu hc r8 r64 (by rw [e]; rfl) (by rw [← Int.add_assoc, Int.add_emod, e]; rfl) (fun c _ _ _ => k0 c) k
theorem snd_none {s : Store} {i : Nat} {l m mn : Int} (h : s[i]? = some (sndC [] false (snd0 l))) (k : Q (.d .none) s) : Call (callF (n + 3)) .x_SendPart .x_next_chunk [.loc i, .d (.int m), .d (.int mn)] s Q := by
  refine ⟨ons h (ons h (sp_first0 (ons h (snd_room (m := mn) h (Nat.zero_le _) nofun (ons h (ons h ⟨rfl, ons h (br_t ?_ k)⟩))))))⟩
  have r : max 0 (min m (max 0 (min (min ((([] : List UInt8).length : Nat) : Int) l - 0) mn))) = 0 := Int.max_eq_left (let' mnr (mxle (Int.le_refl 0) (let' mnl (let' (Int.le_of_eq (Int.sub_zero _)) mnl))))
  exact (congrArg ((0 : Int) + ·) r).symm
theorem ff_has {o : Od} {u : Bool} (h : (ff o).has u = true) : u = false ∧ o.has false = true := by cases o <;> cases u <;> first | exact ⟨rfl, rfl⟩ | cases h
theorem df_server (hu : (ff W.kno).has false = true) (r8 : 8 ≤ room) (r64 : room < 64) (k : Q (.d .none) (stOf W)) : Call (callF (n + 7)) .x_StreamSet .x_data_frame [.loc 20, .d (.int 0), .d (.int room)] (stOf W) Q :=
  have L := look_ss (ff_has hu).2
  ⟨ons (look_dk (u := false) hu) (ons L (sp_frame_size (u := 0) (by decide) (Int.le_refl 0) (by decide : (0 : Int) < 64) fun z hz => br_f (ln (let' hz (let' (by decide) r8))) (ons L (ons L (ons L (sp_stream_room (n := n + 2) (u := 0) (by decide) (Int.le_refl 0) (by decide : (0 : Int) < 64) r8 r64 fun m h4 => cr_room (cl := W.p0.md) (cu := 0) (ct := none) rfl (snd_none L k)))))))⟩
theorem nd_server (r8 : 8 ≤ room) (r64 : room < 64) (k : Q (.d .none) (stOf W)) : Call (callF (n + 8)) .x_StreamSet .x_next_data [.loc 20, .d (.int room)] (stOf W) Q := by
  refine ⟨sortK (fun c => ⟨Nat.zero_le _, ⟨by decide, by decide⟩, ⟨k⟩⟩) (fun u hu hn => ?_) fun hu => nomatch (ff_has (hu true)).1⟩
  obtain ⟨rfl, _⟩ := ff_has hu
  exact ⟨(by decide : 1 ≤ lim), sm1, ⟨⟨(by decide : 1 ≤ lim), by decide, ⟨by decide, by decide⟩, df_server hu r8 r64 k⟩⟩⟩
end
end
section
noncomputable def ol (o : Od) : List Bool := o.casesOn [] [false] [true] [false, true] [true, false]
theorem cmp_keys {f : D → Store → (Option D → Store → Prop) → Prop} {s : Store} {P : List D → Store → Prop} {o : Od} {v : Bool → V} {R : Bool → Option D → Prop} (h : ∀ u, o.has u = true → ∀ k : Option D → Store → Prop, (∀ x, R u x → k x s) → f (.int (sid u)) s k)
    (k : ∀ g : Bool → Option D, (∀ u, o.has u = true → R u (g u)) → P ((ol o).filterMap g) s) : Cmp f ((dk v o).map fun p => p.1.d) s P := by
  cases o
  · exact ⟨k (fun _ => none) nofun⟩
  · exact ⟨h false rfl _ fun x r => by have := k (fun _ => x) (fun u e => by cases u; exact r; cases e); cases x <;> exact this⟩
  · exact ⟨h true rfl _ fun x r => by have := k (fun _ => x) (fun u e => by cases u; cases e; exact r); cases x <;> exact this⟩
  · exact ⟨h false rfl _ fun x r => h true rfl _ fun y q => by have := k (@Bool.rec (fun _ => Option D) x y) (fun u _ => by cases u; exact r; exact q); cases x <;> cases y <;> exact this⟩
  · exact ⟨h true rfl _ fun x r => h false rfl _ fun y q => by have := k (@Bool.rec (fun _ => Option D) y x) (fun u _ => by cases u; exact q; exact r); cases x <;> cases y <;> exact this⟩
theorem ol_len {o : Od} {g : Bool → Option D} : ((ol o).filterMap g).length ≤ 2 := Nat.le_trans (List.length_filterMap_le _ _) (Od.casesOn (motive := fun o => (ol o).length ≤ 2) o (Nat.zero_le 2) (by decide) (by decide) (by decide) (by decide))
theorem put_bup {α : Type} {g : Bool → α → V} {f : Bool → α} {x : α} {o : Od} {u : Bool} : putK (.i (sid u)) (g u x) (dk (fun v => g v (f v)) o) = dk (fun v => g v (bup f u x v)) (o.add u) := by
  have := put_dk (u := u) (o := o) (f := fun v => g v (f v)) (g := fun v => g v (bup f u x v)) fun v h => congrArg (g v) (bup_ne h).symm
  rw [bup_self] at this
  exact this
theorem ne_any {x : V} {z : Int} {s : Store} {P : Bool → Prop} (hx : x = .d .none ∨ ∃ y, x = .d (.int y)) (k : ∀ b, P b) : cmpP .ne x (.d (.int z)) s P := by
  rcases hx with rfl | ⟨y, rfl⟩ <;> exact k _
theorem get_any {f : Bool → Int} {o : Od} {u : Bool} : (lookK (.i (sid u)) (dk (fun v => .d (.int (f v))) o)).getD (.d .none) = .d .none ∨ ∃ y, (lookK (.i (sid u)) (dk (fun v => .d (.int (f v))) o)).getD (.d .none) = .d (.int y) :=
  b2 (o.has u) (fun h => .inr ⟨f u, by rw [look_dk h]; rfl⟩) fun h => .inl (by rw [look_no h]; rfl)
section
variable {n : Nat} {W : Wd} {u : Bool} {Q : V → Store → Prop}
theorem wants_client (I : ∀ u, SA (W.wr u) (W.snd u)) (k : ∀ b, Q (.d (.bool b)) (stOf W)) : Call (callF (n + 2)) .x_StreamSet .x_wants_new [.loc 4] (stOf W) Q :=
  ⟨⟨Nat.le_trans dk_len (by decide), cmp_keys (R := fun _ _ => True) (fun u hu K hK => ons (look_dk hu) (ons (look_snd hu) (snd_any (look_snd hu) (I u).wl fun r => br (fun _ => hK _ trivial) fun _ => hK _ trivial))) fun g _ => ⟨Nat.le_trans ol_len (by decide), k _⟩⟩⟩
theorem wants_server (k : ∀ b, Q (.d (.bool b)) (stOf W)) : Call (callF (n + 2)) .x_StreamSet .x_wants_new [.loc 20] (stOf W) Q :=
  ⟨⟨Nat.le_trans dk_len (by decide), cmp_keys (R := fun _ _ => True) (fun u hu K hK => by
    obtain ⟨rfl, hk⟩ := ff_has hu
    exact ons (look_dk hu) (ons (look_ss hk) (snd_any (look_ss hk) (Nat.zero_le _) fun r => br (fun _ => hK _ trivial) fun _ => hK _ trivial))) fun g _ => ⟨Nat.le_trans ol_len (by decide), k _⟩⟩⟩
theorem bf_step {acc : List D} {x2 x3 : Option V} {K' : K} (hu : W.ord.has u = true) (I : SA (W.wr u) (W.snd u)) (ha : acc.length < 10) (k0 : ∀ x2 x3, K' [some (.loc 4), none, x2, x3] (some (1, .lst acc)) (stOf W))
    (k1 : ∀ z o f x2 x3, K' [some (.loc 4), none, x2, x3] (some (1, .lst (acc ++ [frD W.wr (.sdb u z)]))) (stOf { W with bk := o, bz := f })) :
    forF (wB (callF (n + 2)) (forB f_StreamSet_blocked_frames.body[1]?)) [2] false Q (.int (sid u)) [some (.loc 4), none, x2, x3] (some (1, .lst acc)) (stOf W) K' := by
  refine ons (look_dk hu) (ons (look_snd hu) (snd_blk (look_snd hu) I.wl I.t0 (k0 _ _) fun _ => ?_))
  have put : ∀ x2 x3, K' [some (.loc 4), none, x2, x3] (some (1, .lst (acc ++ [frD W.wr (.sdb u (W.snd u).lm)]))) ((stOf W).set 17 (.dict (putK (.i (sid u)) (.d (.int (W.snd u).lm)) (dk (fun v => .d (.int (W.bz v))) W.bk)))) := fun x2 x3 => by
    rw [put_bup (g := fun _ z => .d (.int z))]; exact k1 (W.snd u).lm (W.bk.add u) (bup W.bz u (W.snd u).lm) x2 x3
  have hl : (dk (fun v => .d (.int (W.bz v))) W.bk).length ≤ lim := Nat.le_trans dk_len (by decide)
  exact ne_any (s := stOf W) get_any fun b => brB (fun _ => ⟨hl, Nat.lt_trans ha (by decide), put _ _⟩) fun _ => k0 _ _
def CF1 (W : Wd) (f : Fr) : Prop := (∃ u z, f = .sdb u z ∧ W.ord.has u = true) ∨ ∃ z, f = .db z
theorem bf_end {acc : List D} {x2 x3 : Option V} (I : ∀ u, SA (W.wr u) (W.snd u)) (ha : acc.length < 10) (k0 : Q (.d (.lst acc)) (stOf W)) (k1 : ∀ z c, Q (.d (.lst (acc ++ [frD W.wr (.db z)]))) (stOf { W with ct := c })) :
    wB (callF (n + 3)) (f_StreamSet_blocked_frames.body.drop 2) [some (.loc 4), none, x2, x3] (some (1, .lst acc)) (stOf W) (kEnd Q) Q :=
  wants_client I fun b => brB (fun _ => cr_room (cl := W.cl) (cu := W.cu) (ct := W.ct) rfl (br (fun _ => cr_next (cl := W.cl) (cu := W.cu) (ct := W.ct) rfl k0 fun _ => ⟨Nat.lt_trans ha (by decide), k1 W.cl (some W.cl)⟩) fun _ => k0)) fun _ => k0
theorem blocked_client (I : ∀ u, SA (W.wr u) (W.snd u)) (k : ∀ (o : Od) (f : Bool → Int) (c : Option Int) (cf : List Fr), cf.length ≤ 3 → (∀ f ∈ cf, CF1 W f) → Q (.d (.lst (cf.map (frD W.wr)))) (stOf { W with bk := o, bz := f, ct := c })) : Call (callF (n + 4)) .x_StreamSet .x_blocked_frames [.loc 4] (stOf W) Q := by
  have no : ∀ f ∈ [], CF1 W f := nm
  have add : ∀ {f : Fr} {l}, CF1 W f → (∀ f ∈ l, CF1 W f) → ∀ g ∈ f :: l, CF1 W g := fun h q g m => (List.mem_cons.mp m).elim (fun e => e ▸ h) (q g)
  have db : ∀ {z}, CF1 W (.db z) := .inr ⟨_, rfl⟩
  have sdb : ∀ {u z}, W.ord.has u = true → CF1 W (.sdb u z) := fun h => .inl ⟨_, _, rfl, h⟩
  refine ⟨sortK (fun _ => ⟨bf_end I (by decide) (k _ _ _ [] (by decide) no) fun z c => k _ _ c [.db z] (by decide : 1 ≤ 3) (add db no)⟩)
    (fun u hu _ => ⟨bf_step hu (I u) (by decide) (fun x2 x3 => bf_end I (by decide) (k _ _ _ [] (by decide) no) fun z c => k _ _ c [.db z] (by decide : 1 ≤ 3) (add db no))
      fun y o f x2 x3 => bf_end (W := { W with bk := o, bz := f }) I (by decide : 1 < 10) (k o f _ [.sdb u y] (by decide : 1 ≤ 3) (add (sdb hu) no)) fun z c => k o f c [.sdb u y, .db z] (by decide : 2 ≤ 3) (add (sdb hu) (add db no))⟩)
    fun hu => ⟨bf_step (u := false) (hu _) (I _) (by decide) (fun x2 x3 => bf_step (u := true) (hu _) (I _) (by decide) (fun x2 x3 => bf_end I (by decide) (k _ _ _ [] (by decide) no) fun z c => k _ _ c [.db z] (by decide : 1 ≤ 3) (add db no))
        fun y o f x2 x3 => bf_end (W := { W with bk := o, bz := f }) I (by decide : 1 < 10) (k o f _ [.sdb true y] (by decide : 1 ≤ 3) (add (sdb (hu _)) no)) fun z c => k o f c [.sdb true y, .db z] (by decide : 2 ≤ 3) (add (sdb (hu _)) (add db no)))
      fun y o f x2 x3 => bf_step (W := { W with bk := o, bz := f }) (u := true) (hu _) (I _) (by decide : 1 < 10) (fun x2 x3 => bf_end (W := { W with bk := o, bz := f }) I (by decide : 1 < 10) (k o f _ [.sdb false y] (by decide : 1 ≤ 3) (add (sdb (hu _)) no)) fun z c => k o f c [.sdb false y, .db z] (by decide : 2 ≤ 3) (add (sdb (hu _)) (add db no)))
        fun y' o f x2 x3 => bf_end (W := { W with bk := o, bz := f }) I (by decide : 2 < 10) (k o f _ [.sdb false y, .sdb true y'] (by decide : 2 ≤ 3) (add (sdb (hu _)) (add (sdb (hu _)) no))) fun z c => k o f c [.sdb false y, .sdb true y', .db z] (by decide : 3 ≤ 3) (add (sdb (hu _)) (add (sdb (hu _)) (add db no)))⟩⟩
theorem blocked_server (hp : 0 < W.p0.md) (k : Q (.d (.lst [])) (stOf W)) : Call (callF (n + 4)) .x_StreamSet .x_blocked_frames [.loc 20] (stOf W) Q := by
  have fin : ∀ x2 x3, wB (callF (n + 3)) (f_StreamSet_blocked_frames.body.drop 2) [some (.loc 20), none, x2, x3] (some (1, .lst [])) (stOf W) (kEnd Q) Q := fun x2 x3 =>
    wants_server fun b => brB (fun _ => cr_room (cl := W.p0.md) (cu := 0) (ct := none) rfl (br_f (fun e => Int.ne_of_gt hp ((Int.sub_zero _).symm.trans e)) k)) fun _ => k
  refine ⟨sortK (fun _ => ⟨fin _ _⟩) (fun u hu _ => ?_) fun hu => nomatch (ff_has (hu true)).1⟩
  obtain ⟨rfl, hk⟩ := ff_has hu
  exact ⟨ons (look_dk (u := false) hu) (ons (look_ss hk) (snd_blk (look_ss hk) (Nat.zero_le _) (Int.le_refl 0) (fin _ _) fun e => absurd rfl e))⟩
end
end
section
noncomputable def nxt (x : Win) (l : Int) : Win := ⟨x.sz, l, x.got, x.usd, false⟩
def WinN (x : Win) : Prop := x.ow = false ∧ x.sz ≤ 2 * (x.lm - x.usd)
def WinT (x : Win) (l : Int) : Prop := x.ow = true ∧ l = x.lm ∧ ¬ 2 * (x.lm - x.usd) < x.sz ∨ 2 * (x.lm - x.usd) < x.sz ∧ l = x.usd + x.sz
section
variable {n : Nat} {s : Store} {i : Nat} {x : Win} {Q : V → Store → Prop}
theorem winW_next (h : s[i]? = some (winW x)) (hb : -1000000 < x.lm - x.usd ∧ x.lm - x.usd < 1000000) (k0 : WinN x → Q (.d .none) s) (k1 : ∀ l, WinT x l → Q (.d (.int l)) (s.set i (winW (nxt x l)))) : Call (callF (n + 1)) .x_Window .x_next_limit [.loc i] s Q := win_next h hb (fun a b => k0 ⟨a, b⟩) k1
theorem win0_next {z : Int} (h : s[i]? = some (winW (win0 z))) (h0 : 0 ≤ z) (h1 : z < 1000) (k : Q (.d .none) s) : Call (callF (n + 1)) .x_Window .x_next_limit [.loc i] s Q :=
  winW_next h ⟨ltle (by decide) (let' h0 (Int.le_of_eq (Int.sub_zero z).symm)), lelt (Int.le_of_eq (Int.sub_zero z)) (ltt h1 (by decide))⟩ (fun _ => k) fun l q => q.elim (fun q => nomatch q.1) fun q => absurd q.1 (by show ¬ 2 * (z - 0) < z; omega)
theorem rc_raise {w : List UInt8} {lm l : Int} {p : Rcv} (h : s[i]? = some (rcC w lm p)) (k : Q (.d .none) (s.set i (rcC w (max lm l) p))) : Call (callF (n + 1)) .x_RecvPart .x_raise_limit [.loc i, .d (.int l)] s Q := rcv_raise h k
theorem ids_grant {v b : Bool} {c : Nat} (h : s[i]? = some (idsC v c)) (hg : s[c + 6]? = some (twoC 1 1)) (hp : s[c + 2]? = some (twoC 1 1)) (k : Q (.d .none) s) : Call (callF (n + 1)) .x_StreamIds .x_next_grant [.loc i, .d (.bool b)] s Q := by
  cases b <;> exact ⟨ons h (ons hg ⟨by decide, ons h (ons hp ⟨by decide, k⟩)⟩)⟩
end
section
variable {n : Nat} {W : Wd} {u : Bool} {Q : V → Store → Prop}
theorem limits_client (m0 : 0 ≤ W.p0.md) (m1 : W.p0.md < 1000) (b0 : 0 ≤ W.p0.bl) (b1 : W.p0.bl < 1000) (k : Q (.d (.lst [])) (stOf W)) : Call (callF (n + 3)) .x_StreamSet .x_limit_frames [.loc 4] (stOf W) Q := by
  have fin : ∀ x2 x3 x5 x6, wB (callF (n + 2)) (f_StreamSet_limit_frames.body.drop 4) [some (.loc 4), none, x2, x3, none, x5, x6] (some (1, .lst [])) (stOf W) (kEnd Q) Q := fun x2 x3 x5 x6 => ⟨ids_grant (v := false) (c := 5) rfl rfl rfl (ids_grant (v := false) (c := 5) rfl rfl rfl k)⟩
  refine ⟨win0_next (z := W.p0.md) rfl m0 m1 (sortK (fun _ => ⟨fin _ _ _ _⟩) (fun u hu _ => ?_) fun hu => nomatch (ff_has (hu true)).1)⟩
  obtain ⟨rfl, hk⟩ := ff_has hu
  exact ⟨ons (look_dk (u := false) hu) (ons (look_cr hk) (ons (look_cr hk) (ons (look_dk (u := false) hu) (ons (look_cw hk) (win0_next (look_cw hk) b0 b1 (fin _ _ _ _))))))⟩
theorem WinT.le {x : Win} {l : Int} (h : WinT x l) (h0 : 0 ≤ x.sz) : x.lm ≤ l := h.elim (fun h => Int.le_of_eq h.2.1.symm) fun h => by have := h.1; have := h.2; omega
structure LmI (W : Wd) (a : Win) (b : Bool → Win) (c : Bool → Int) (fs : List Fr) (D : Bool → Prop) : Prop where
  wi : (a = W.wi ∧ WinN W.wi) ∨ ∃ l, WinT W.wi l ∧ a = nxt W.wi l ∧ .md l ∈ fs
  st : ∀ u, (b u = W.win u ∧ c u = W.rlm u ∧ (D u → (W.rcv u).st = .rcg → WinN (W.win u))) ∨ ∃ l, W.kno.has u = true ∧ WinT (W.win u) l ∧ b u = nxt (W.win u) l ∧ c u = max (W.rlm u) l ∧ .msd u l ∈ fs
  fr : ∀ f ∈ fs, (∃ l, l ≤ a.lm ∧ f = .md l) ∨ ∃ u l, W.kno.has u = true ∧ l ≤ (b u).lm ∧ f = .msd u l
section
variable {a : Win} {b : Bool → Win} {c : Bool → Int} {fs : List Fr} {D D' : Bool → Prop} {l : Int} (L : LmI W a b c fs D) (hD : ∀ v, D' v → D v ∨ v = u)
include L hD
theorem LmI.keep (q : (W.rcv u).st = .rcg → WinN (W.win u)) : LmI W a b c fs D' := ⟨L.wi, fun v => (L.st v).imp (fun h => ⟨h.1, h.2.1, fun d r => (hD v d).elim (fun d => h.2.2 d r) fun e => e ▸ q (e ▸ r)⟩) id, L.fr⟩
theorem LmI.told (hu : W.kno.has u = true) (hb : b u = W.win u) (hc : c u = W.rlm u) (hs : 0 ≤ (W.win u).sz) (q : WinT (W.win u) l) : LmI W a (bup b u (nxt (b u) l)) (bup c u (max (c u) l)) (fs ++ [.msd u l]) D' :=
  ⟨L.wi.imp id fun ⟨l, h1, h2, h3⟩ => ⟨l, h1, h2, List.mem_append_left _ h3⟩, bup_all2 (P := fun v y z => (y = W.win v ∧ z = W.rlm v ∧ (D' v → (W.rcv v).st = .rcg → WinN (W.win v))) ∨ ∃ l', W.kno.has v = true ∧ WinT (W.win v) l' ∧ y = nxt (W.win v) l' ∧ z = max (W.rlm v) l' ∧ .msd v l' ∈ fs ++ [.msd u l]) (.inr ⟨l, hu, q, hb ▸ rfl, hc ▸ rfl, List.mem_append_right _ (.head _)⟩)
    fun v e => (L.st v).imp (fun h => ⟨h.1, h.2.1, fun d => h.2.2 ((hD v d).resolve_right e)⟩) fun ⟨l, h1, h2, h3, h4, h5⟩ => ⟨l, h1, h2, h3, h4, List.mem_append_left _ h5⟩,
    fun f m => (List.mem_append.mp m).elim (fun m => (L.fr f m).imp id fun ⟨v, l', h1, h2, h3⟩ => ⟨v, l', h1, let' h2 (bup_all (P := fun v (y : Win) => (b v).lm ≤ y.lm) (show (b u).lm ≤ l from hb ▸ q.le hs) (fun _ _ => Int.le_refl _) v), h3⟩) fun m => .inr ⟨u, l, hu, by rw [bup_self]; exact Int.le_refl _, List.mem_singleton.mp m⟩⟩
end
theorem lf_step {a : Win} {b : Bool → Win} {c : Bool → Int} {fs : List Fr} {D D' : Bool → Prop} {x2 x3 x5 x6 : Option V} {K' : K} (hu : W.kno.has u = true) (L : LmI W a b c fs D) (hb : b u = W.win u) (hc : c u = W.rlm u) (hD : ∀ v, D' v → D v ∨ v = u) (hs : 0 ≤ (W.win u).sz) (hl : -1000000 < (W.win u).lm - (W.win u).usd ∧ (W.win u).lm - (W.win u).usd < 1000000) (ha : fs.length < 10)
    (k : ∀ b' c' fs', LmI W a b' c' fs' D' → (∀ v, v ≠ u → b' v = b v ∧ c' v = c v) → fs'.length ≤ fs.length + 1 → ∀ x2 x3 x5 x6, K' [some (.loc 20), none, x2, x3, none, x5, x6] (some (1, .lst (fs'.map (frD W.wr)))) (stOf { W with wi := a, win := b', rlm := c' })) :
    forF (wB (callF (n + 2)) (forB f_StreamSet_limit_frames.body[3]?)) [3] false Q (.int (sid u)) [some (.loc 20), none, x2, x3, none, x5, x6] (some (1, .lst (fs.map (frD W.wr)))) (stOf { W with wi := a, win := b, rlm := c }) K' := by
  have same : ((W.rcv u).st = .rcg → WinN (W.win u)) → ∀ x2 x3 x5 x6, K' [some (.loc 20), none, x2, x3, none, x5, x6] (some (1, .lst (fs.map (frD W.wr)))) (stOf { W with wi := a, win := b, rlm := c }) := fun q => k b c fs (L.keep hD q) (fun _ _ => ⟨rfl, rfl⟩) (Nat.le_succ _)
  have put : ∀ l, WinT (W.win u) l → ∀ x2 x3 x5 x6, K' [some (.loc 20), none, x2, x3, none, x5, x6] (some (1, .lst (fs.map (frD W.wr) ++ [frD W.wr (.msd u l)]))) (stOf { W with wi := a, win := bup b u (nxt (b u) l), rlm := bup c u (max (c u) l) }) := fun l q x2 x3 x5 x6 => by
    have := k _ _ _ (L.told hD hu hb hc hs q) (fun v h => ⟨bup_ne h, bup_ne h⟩) (List.length_append ▸ Nat.le_refl _) x2 x3 x5 x6
    rw [List.map_append] at this; exact this
  have hf : (fs.map (frD W.wr)).length < lim := Nat.lt_trans (List.length_map (as := fs) (frD W.wr) ▸ ha) (by decide)
  have tN : WinN (b u) → WinN (W.win u) := fun q => hb ▸ q
  have tT : ∀ l, WinT (b u) l → WinT (W.win u) l := fun l q => hb ▸ q
  rw [← hb] at hl
  clear k L hD hs ha hb hc
  have R := look_rcv (W := { W with wi := a, win := b, rlm := c }) (u := u) hu
  have Y := look_win (W := { W with wi := a, win := b, rlm := c }) (u := u) hu
  refine ons (look_dk hu) (rc4 (W.rcv u).st (fun f => ons (rc_st R f) (ons R (ons (look_dk hu) (ons Y (winW_next Y hl (fun q => same (fun _ => tN q) _ _ _ _) fun l q => ?_))))) (fun f => ons (rc_st R f) (same (fun g => nomatch f.symm.trans g) _ _ _ _)) (fun f => ons (rc_st R f) (same (fun g => nomatch f.symm.trans g) _ _ _ _)) fun f => ons (rc_st R f) (same (fun g => nomatch f.symm.trans g) _ _ _ _))
  rw [set_win (W := { W with wi := a, win := b, rlm := c }) hu]
  have R2 := look_rcv (W := { W with wi := a, win := bup b u (nxt (b u) l), rlm := c }) (u := u) hu
  refine ons R2 (rc_raise R2 ?_)
  rw [set_rlm (W := { W with wi := a, win := bup b u (nxt (b u) l), rlm := c }) hu]
  exact ⟨hf, put l (tT l q) _ _ _ _⟩
theorem limits_server (hs : ∀ u, 0 ≤ (W.win u).sz ∧ -1000000 < (W.win u).lm - (W.win u).usd ∧ (W.win u).lm - (W.win u).usd < 1000000) (hw : -1000000 < W.wi.lm - W.wi.usd ∧ W.wi.lm - W.wi.usd < 1000000)
    (k : ∀ a b c fs, LmI W a b c fs (fun u => W.kno.has u = true) → fs.length ≤ 3 → Q (.d (.lst (fs.map (frD W.wr)))) (stOf { W with wi := a, win := b, rlm := c })) : Call (callF (n + 3)) .x_StreamSet .x_limit_frames [.loc 20] (stOf W) Q := by
  have fin : ∀ a b c fs x2 x3 x5 x6, LmI W a b c fs (fun u => W.kno.has u = true) → fs.length ≤ 3 → wB (callF (n + 2)) (f_StreamSet_limit_frames.body.drop 4) [some (.loc 20), none, x2, x3, none, x5, x6] (some (1, .lst (fs.map (frD W.wr)))) (stOf { W with wi := a, win := b, rlm := c }) (kEnd Q) Q := fun a b c fs x2 x3 x5 x6 L l =>
    ⟨ids_grant (v := true) (c := 21) rfl rfl rfl (ids_grant (v := true) (c := 21) rfl rfl rfl (k a b c fs L l))⟩
  have mid : ∀ a fs x2, LmI W a W.win W.rlm fs (fun _ => False) → fs.length ≤ 1 → wB (callF (n + 2)) (f_StreamSet_limit_frames.body.drop 3) [some (.loc 20), none, x2, none, none, none, none] (some (1, .lst (fs.map (frD W.wr)))) (stOf { W with wi := a }) (kEnd Q) Q := fun a fs x2 L l => by
    refine sortK (fun c => ⟨fin _ _ _ _ _ _ _ _ ⟨L.wi, fun u => (L.st u).imp (fun h => ⟨h.1, h.2.1, fun d => nomatch (c u).symm.trans d⟩) id, L.fr⟩ (Nat.le_trans l (by decide))⟩) (fun u hu hn => ⟨?_⟩) fun hu => ⟨?_⟩
    · exact lf_step (W := W) (a := a) (b := W.win) (c := W.rlm) (fs := fs) (D' := fun u => W.kno.has u = true) hu L rfl rfl (fun v d => .inr (if e : v = u then e else nomatch (hn v e).symm.trans d)) (hs u).1 (hs u).2 (Nat.lt_of_le_of_lt l (by decide)) fun b c fs' L' _ l' _ _ _ _ => fin _ _ _ _ _ _ _ _ L' (Nat.le_trans l' (Nat.le_trans (Nat.succ_le_succ l) (by decide)))
    · exact lf_step (W := W) (a := a) (b := W.win) (c := W.rlm) (fs := fs) (D' := fun v => v = false) (u := false) (hu false) L rfl rfl (fun v d => .inr d) (hs _).1 (hs _).2 (Nat.lt_of_le_of_lt l (by decide)) fun b c fs' L' o l' _ _ _ _ => lf_step (W := W) (a := a) (b := b) (c := c) (fs := fs') (D' := fun u => W.kno.has u = true) (u := true) (hu true) L' (o true nofun).1 (o true nofun).2 (fun v d => by cases v; exact .inl rfl; exact .inr rfl) (hs _).1 (hs _).2
        (Nat.lt_of_le_of_lt (Nat.le_trans l' (Nat.succ_le_succ l)) (by decide)) fun b c fs' L' _ l2 _ _ _ _ => fin _ _ _ _ _ _ _ _ L' (Nat.le_trans l2 (Nat.succ_le_succ (Nat.le_trans l' (Nat.succ_le_succ l))))
  have no : ∀ u, (W.win u = W.win u ∧ W.rlm u = W.rlm u ∧ (False → (W.rcv u).st = .rcg → WinN (W.win u))) := fun _ => ⟨rfl, rfl, False.elim⟩
  exact ⟨winW_next (x := W.wi) rfl hw (fun q => mid W.wi [] _ ⟨.inl ⟨rfl, q⟩, fun u => .inl (no u), nm⟩ (by decide)) fun l q => ⟨by decide, mid (nxt W.wi l) [.md l] _ ⟨.inr ⟨l, q, rfl, .head _⟩, fun u => .inl (no u), fun f m => .inl ⟨l, Int.le_refl _, List.mem_singleton.mp m⟩⟩ (Nat.le_refl 1)⟩⟩
end
end
section
section
variable {n : Nat} {W : Wd} {u : Bool} {Q : V → Store → Prop}
theorem control_client (m0 : 0 ≤ W.p0.md) (m1 : W.p0.md < 1000) (b0 : 0 ≤ W.p0.bl) (b1 : W.p0.bl < 1000) (I : ∀ u, SA (W.wr u) (W.snd u)) (k : ∀ (o : Od) (f : Bool → Int) (c : Option Int) (cf : List Fr), cf.length ≤ 3 → (∀ f ∈ cf, CF1 W f) → Q (.d (.lst (cf.map (frD W.wr)))) (stOf { W with bk := o, bz := f, ct := c })) :
    Call (callF (n + 5)) .x_StreamSet .x_control_frames [.loc 4] (stOf W) Q := by
  have fin : ∀ x1 x3, wB (callF (n + 4)) (f_StreamSet_control_frames.body.drop 2) [some (.loc 4), x1, some (.d (.lst [])), x3] none (stOf W) (kEnd Q) Q := fun x1 x3 =>
    limits_client (n := n + 1) m0 m1 b0 b1 ⟨by decide, blocked_client I fun o f c cf l h => ⟨Nat.le_trans (Nat.le_of_eq (Nat.zero_add _)) (Nat.le_trans (Nat.le_of_eq (List.length_map _)) (Nat.le_trans l (by decide))), k o f c cf l h⟩⟩
  have step : ∀ u x1 x3 K', W.ord.has u = true → (∀ x1 x3, K' [some (.loc 4), x1, some (.d (.lst [])), x3] none (stOf W)) → forF (wB (callF (n + 4)) (forB f_StreamSet_control_frames.body[1]?)) [1] false Q (.int (sid u)) [some (.loc 4), x1, some (.d (.lst [])), x3] none (stOf W) K' := fun u x1 x3 K' hu hK => ons (look_dk hu) (ons (look_snd hu) (snd_reset (look_snd hu) (hK _ _)))
  exact ⟨sortK (fun _ => ⟨fin _ _⟩) (fun u hu _ => ⟨step u _ _ _ hu fin⟩) fun hu => ⟨step false _ _ _ (hu _) fun _ _ => step true _ _ _ (hu _) fin⟩⟩
theorem control_server (hp : 0 < W.p0.md) (hs : ∀ u, 0 ≤ (W.win u).sz ∧ -1000000 < (W.win u).lm - (W.win u).usd ∧ (W.win u).lm - (W.win u).usd < 1000000) (hw : -1000000 < W.wi.lm - W.wi.usd ∧ W.wi.lm - W.wi.usd < 1000000)
    (k : ∀ a b c fs, LmI W a b c fs (fun u => W.kno.has u = true) → fs.length ≤ 3 → Q (.d (.lst (fs.map (frD W.wr)))) (stOf { W with wi := a, win := b, rlm := c })) : Call (callF (n + 5)) .x_StreamSet .x_control_frames [.loc 20] (stOf W) Q := by
  have fin : ∀ x1 x3, wB (callF (n + 4)) (f_StreamSet_control_frames.body.drop 2) [some (.loc 20), x1, some (.d (.lst [])), x3] none (stOf W) (kEnd Q) Q := fun x1 x3 =>
    limits_server (n := n + 1) hs hw fun a b c fs L l => ⟨Nat.le_trans (Nat.le_of_eq (Nat.zero_add _)) (Nat.le_trans (Nat.le_of_eq (List.length_map _)) (Nat.le_trans l (by decide))), blocked_server (W := { W with wi := a, win := b, rlm := c }) hp ⟨Nat.le_trans (Nat.le_of_eq (List.length_map _)) (Nat.le_trans l (by decide)), by
      have := k a b c fs L l
      rw [← List.append_nil (fs.map (frD W.wr))] at this
      exact this⟩⟩
  refine ⟨sortK (fun _ => ⟨fin _ _⟩) (fun u hu _ => ?_) fun hu => nomatch (ff_has (hu true)).1⟩
  obtain ⟨rfl, hk⟩ := ff_has hu
  exact ⟨ons (look_dk (u := false) hu) (ons (look_ss hk) (snd_reset (look_ss hk) (fin _ _)))⟩
end
end
section
noncomputable def flA (v : Bool) (cf : List Fr) : Fly := cf.map fun f => (v, f, true)
noncomputable def sg (W : Wd) (u : Bool) : Int := bif W.sk.has u then W.sent u else 0
theorem max_of {x : V} {a b : Int} {s : Store} {P : D → Prop} (h : x = .d (.int a)) (k : P (.int (max a b))) : biP .max [x, .d (.int b)] s P := by subst h; exact k
theorem get_sg {f : Bool → Int} {o : Od} {u : Bool} : (lookK (.i (sid u)) (dk (fun v => .d (.int (f v))) o)).getD (.d (.int 0)) = .d (.int (bif o.has u then f u else 0)) :=
  b2 (o.has u) (fun h => by rw [look_dk h, h]; rfl) fun h => by rw [look_no h, h]; rfl
theorem ints_keys {o : Od} {g : Bool → Option D} {f : Bool → Int} (h : ∀ u, o.has u = true → g u = some (.int (f u))) : asInts ((ol o).filterMap g) = some ((ol o).map f) := by
  have h0 := h false; have h1 := h true
  cases o <;> (first | rfl | (show asInts (List.filterMap g (_ :: _)) = _; simp only [List.filterMap, h0 rfl]; rfl) | (show asInts (List.filterMap g (_ :: _)) = _; simp only [List.filterMap, h1 rfl]; rfl) | (show asInts (List.filterMap g (_ :: _ :: _)) = _; simp only [List.filterMap, h0 rfl, h1 rfl]; rfl))
theorem comp_keys {f : D → Store → (Option D → Store → Prop) → Prop} {s : Store} {P : PV} {i : Nat} {o : Od} {v : Bool → V} {R : Bool → Option D → Prop} (hs : s[i]? = some (.dict (dk v o))) (h : ∀ u, o.has u = true → ∀ k : Option D → Store → Prop, (∀ x, R u x → k x (s.set i (.lock (dk v o)))) → f (.int (sid u)) (s.set i (.lock (dk v o))) k)
    (k : ∀ g : Bool → Option D, (∀ u, o.has u = true → R u (g u)) → P (.d (.lst ((ol o).filterMap g))) s) : (dk v o).length ≤ lim ∧ Cmp f ((dk v o).map fun p => p.1.d) (s.set i (.lock (dk v o))) (kCompK i (dk v o) P) :=
  ⟨Nat.le_trans dk_len (by decide), cmp_keys h fun g hg => by
    show P _ ((s.set i _).set i _)
    rw [List.set_set, set_same hs]; exact k g hg⟩
section
variable {n : Nat} {W : Wd} {u : Bool} {lo hi : Int} {e : Bool} {Q : V → Store → Prop}
theorem is_within2 {X : Int} (hu : W.ord.has u = true) (c1 : X ≤ W.lims u) (c2 : ((ol W.sk).map W.sent).sum ≤ W.lall) (k : Q (.d (.bool true)) (stOf W)) :
    wB (callF n) (f__law_is_within.body.drop 2) [some (.loc (cb W.ord + 39)), some (.d (fSt (W.wr u) u lo hi e)), some (.d (.int X)), some (.loc (cb W.ord + 42)), none] none (stOf W) (kEnd Q) Q :=
  ons look_w ⟨by decide, ons (look_dk hu) (br_t c1 (ons look_se (comp_keys (R := fun v x => x = some (.int (W.sent v))) look_se (fun v hv K hK => ons (gs_self look_se) (ons (look_dk hv) (hK _ rfl))) fun g hg => ons (ints_keys hg) (ons look_w (br_t c2 k)))))⟩
theorem is_within (hu : W.ord.has u = true) (h0 : 0 ≤ lo) (h1 : lo ≤ hi) (h2 : hi ≤ (W.wr u).length) (hl : (W.wr u).length ≤ 60) (c1 : hi ≤ W.lims u) (c2 : ((ol (W.sk.add u)).map (bup W.sent u (max (sg W u) hi))).sum ≤ W.lall) (k : Q (.d (.bool true)) (stOf { W with sk := W.sk.add u, sent := bup W.sent u (max (sg W u) hi) })) :
    Call (callF (n + 1)) .x_law .x__law_is_within [.loc (cb W.ord + 39), .d (fSt (W.wr u) u lo hi e)] (stOf W) Q := by
  have el : lo + ((oc (W.wr u) lo hi).length : Int) = hi := by rw [oc_len h0 h1 h2, asb]
  refine ⟨⟨by decide, by decide, lm100 (Nat.le_trans oc_le (Nat.le_trans hl (by decide))), ons look_w (ons look_se ⟨by decide, ons look_se (max_of (s := stOf W) get_sg ⟨by decide, ons look_se ⟨Nat.le_trans dk_len (by decide), ?_⟩⟩)⟩)⟩⟩
  rw [put_bup (g := fun _ z => .d (.int z)), el]
  have := is_within2 (n := n) (W := { W with sk := W.sk.add u, sent := bup W.sent u (max (sg W u) hi) }) (lo := lo) (hi := hi) (e := e) hu c1 c2 k
  rw [← set_se] at this
  exact this
end
end
section
section
variable {n : Nat} {W : Wd} {u : Bool} {room : Int} {Q : V → Store → Prop}
noncomputable def flyW (W : Wd) (F : Fly) : Wd := { W with fly := F }
theorem goes_end {v : Bool} {cf : List Fr} {L : List D} {x2 x4 : Option V} (hL : L = cf.map (frD W.wr)) (hb : W.fly.length ≤ 100000) (hc : cf.length ≤ 100) (k : Q (.d (.bool true)) (stOf (flyW W (W.fly ++ flA v cf)))) :
    wB (callF n) (f__law_goes.body.drop 3) [some (.loc (cb W.ord + 39)), some (.d (.int (b01 v))), x2, some (.d (.lst L)), x4, none] none (stOf W) (kEnd Q) Q := by
  subst hL
  have lc : (cf.map (frD W.wr)).length ≤ 100 := (List.length_map (as := cf) _).symm ▸ hc
  refine ons look_w ⟨lm100 lc, cmp_map (g1 := fun f => flD W.wr (v, f, true)) (fun f _ K hK => hK) ⟨?_, ons look_w ⟨(by decide : 7 ≤ lim), ?_⟩⟩⟩
  · rw [List.length_map, List.length_map]
    exact Nat.le_trans (Nat.add_le_add hb hc) (by decide)
  · rw [flyW, ← set_w, wldC, flA, List.map_append, List.map_map] at k
    exact k
theorem goes_server (hf : W.fly.length ≤ 100000) (hp : 0 < W.p0.md) (hs : ∀ u, 0 ≤ (W.win u).sz ∧ -1000000 < (W.win u).lm - (W.win u).usd ∧ (W.win u).lm - (W.win u).usd < 1000000) (hw : -1000000 < W.wi.lm - W.wi.usd ∧ W.wi.lm - W.wi.usd < 1000000) (r8 : 8 ≤ room) (r64 : room < 64)
    (k : ∀ a b c fs, LmI W a b c fs (fun u => W.kno.has u = true) → fs.length ≤ 3 → Q (.d (.bool true)) (stOf (flyW { W with wi := a, win := b, rlm := c } (W.fly ++ flA true fs)))) : Call (callF (n + 9)) .x_law .x__law_goes [.loc (cb W.ord + 39), .d (.int 1), .d (.int room)] (stOf W) Q :=
  ⟨ons look_w ⟨by decide, control_server (n := n + 3) hp hs hw fun a b c fs L l => ons (look_w (W := { W with wi := a, win := b, rlm := c })) ⟨by decide, nd_server (W := { W with wi := a, win := b, rlm := c }) r8 r64 (goes_end (W := { W with wi := a, win := b, rlm := c }) (v := true) rfl hf (Nat.le_trans l (by decide)) (k a b c fs L l))⟩⟩⟩
noncomputable def ctlW (W : Wd) (o : Od) (f : Bool → Int) (c : Option Int) : Wd := { W with bk := o, bz := f, ct := c }
noncomputable def sentW (W : Wd) (u : Bool) (hi : Int) : Wd := { W with sk := W.sk.add u, sent := bup W.sent u (max (sg W u) hi) }
theorem goes_data {lo hi : Int} {e : Bool} {cf : List Fr} (I : SA (W.wr u) (W.snd u)) (hu : W.ord.has u = true) (hf : W.fly.length ≤ 100000) (hc : cf.length ≤ 3) (h0 : 0 ≤ lo) (h1 : lo ≤ hi) (h2 : hi ≤ (W.wr u).length) (c1 : hi ≤ W.lims u) (c2 : ((ol (W.sk.add u)).map (bup W.sent u (max (sg W u) hi))).sum ≤ W.lall)
    (k : Q (.d (.bool true)) (stOf (flyW (sentW W u hi) (W.fly ++ flA false (cf ++ [.st u lo hi e]))))) :
    wB (callF (n + 1)) (f__law_goes.body.drop 2) [some (.loc (cb W.ord + 39)), some (.d (.int 0)), some (.d (.int room)), some (.d (.lst (cf.map (frD W.wr)))), some (.d (fSt (W.wr u) u lo hi e)), none] none (stOf W) (kEnd Q) Q := by
  have l60 : (W.wr u).length ≤ 60 := Int.ofNat_le.mp (let' I.n (by decide))
  have el : lo + ((oc (W.wr u) lo hi).length : Int) = hi := by rw [oc_len h0 h1 h2, asb]
  have he : oc (W.wr u) lo hi = ((W.wr u).take (lo + ((oc (W.wr u) lo hi).length : Int)).toNat).drop lo.toNat := by rw [el]; rfl
  have ol := lm100 (Nat.le_trans (oc_le (w := W.wr u) (a := lo) (b := hi)) (Nat.le_trans l60 (by decide)))
  have fin := goes_end (n := n + 1) (W := sentW W u hi) (Q := Q) (v := false) (cf := cf ++ [Fr.st u lo hi e]) (L := cf.map (frD W.wr) ++ [fSt (W.wr u) u lo hi e]) (x2 := some (.d (.int room))) (x4 := some (.d (fSt (W.wr u) u lo hi e))) (show cf.map (frD W.wr) ++ [Fr.st u lo hi e].map (frD W.wr) = (cf ++ [Fr.st u lo hi e]).map (frD W.wr) from List.map_append.symm) hf (by rw [List.length_append]; exact Nat.le_trans (Nat.succ_le_succ hc) (by decide)) k
  refine ⟨?_, is_within hu h0 h1 h2 l60 c1 c2 ⟨by decide, ons look_w ⟨by decide, ons (look_dk hu) ⟨by decide, by decide, by decide, ol, h0, let' (let' h0 h1) (Int.le_of_eq el.symm), lm100 (Nat.le_trans l60 (by decide)), brn_t he fin⟩⟩⟩⟩
  rw [List.length_map]
  exact Nat.le_trans (Nat.succ_le_succ hc) (by decide)
theorem goes_client (m0 : 0 ≤ W.p0.md) (m1 : W.p0.md < 1000) (b0 : 0 ≤ W.p0.bl) (b1 : W.p0.bl < 1000) (I : ∀ u, SA (W.wr u) (W.snd u)) (hl : ∀ u, W.lims u = (W.snd u).lm) (hcu : W.cu ≤ W.cl) (hf : W.fly.length ≤ 100000) (r8 : 8 ≤ room) (r64 : room < 64)
    (hS : ∀ u lo hi e p', NdR W u lo hi e p' → ((ol (W.sk.add u)).map (bup W.sent u (max (sg W u) hi))).sum ≤ W.lall)
    (k0 : ∀ (o : Od) (f : Bool → Int) (c : Option Int) (cf : List Fr), cf.length ≤ 3 → (∀ f ∈ cf, CF1 W f) → (∀ u, W.ord.has u = true → N0 (W.wr u) (W.snd u) (W.cl - W.cu)) → Q (.d (.bool true)) (stOf (flyW (ctlW W o f c) (W.fly ++ flA false cf))))
    (k1 : ∀ (o : Od) (f : Bool → Int) (c : Option Int) (cf : List Fr) u lo hi e p' t, cf.length ≤ 3 → (∀ f ∈ cf, CF1 W f) → NdR W u lo hi e p' → Q (.d (.bool true)) (stOf (flyW (sentW (dataW (ctlW W o f c) u p' t) u hi) (W.fly ++ flA false (cf ++ [.st u lo hi e]))))) :
    Call (callF (n + 9)) .x_law .x__law_goes [.loc (cb W.ord + 39), .d (.int 0), .d (.int room)] (stOf W) Q :=
  ⟨ons look_w ⟨by decide, control_client (n := n + 3) m0 m1 b0 b1 I fun o f c cf l h => ons (look_w (W := ctlW W o f c)) ⟨by decide, nd_client (W := ctlW W o f c) I hcu r8 r64 (fun q => goes_end (W := ctlW W o f c) (v := false) rfl hf (Nat.le_trans l (by decide)) (k0 o f c cf l h q)) fun u lo hi e p' t R =>
    have R : NdR W u lo hi e p' := ⟨R.has, R.sa, R.ch⟩
    goes_data (W := dataW (ctlW W o f c) u p' t) (u := u) (by show SA (W.wr u) (bup W.snd u p' u); rw [bup_self]; exact R.sa) R.has hf l R.ch.f.lo0 R.ch.f.lh R.ch.f.hN (let' R.ch.f.hL (Int.le_of_eq (hl u).symm)) (hS u lo hi e p' R) (k1 o f c cf u lo hi e p' t l h R)⟩⟩⟩
end
end
section
section
variable {n : Nat} {s : Store} {i c L : Nat} {l : Int} {Q : V → Store → Prop}
theorem new_at {x : Cell} : (s ++ [x])[s.length]? = some x := List.getElem?_concat_length
theorem new_end {x y : Cell} : (s ++ [x]).set s.length y = s ++ [y] := by rw [List.set_append_right _ _ (Nat.le_refl _), Nat.sub_self]; rfl
theorem self_b {cf : CF} {c m : N} {e : E} {rest : List Mine.S} {r : Slots} {o : OO} {fl : List (N × V)} {K' : K} {R : PV} {v : V} (hE : ∀ P : PV, P v (s ++ [.inst c fl]) → wE cf e r (s ++ [.inst c fl]) P) (hk : keysIn m (attrsOf c) = true) (h0 : slotOf r 0 = some (.loc s.length))
    (k : wB cf rest r o (s ++ [.inst c (putN m v fl)]) K' R) : wB cf (.asg (.attr (.var 0) m) e :: rest) r o (s ++ [.inst c fl]) K' R := by
  refine hE _ ?_
  show onS (slotOf r 0) _
  rw [h0]
  refine ons new_at ?_
  show ifT (keysIn m (attrsOf c)) _
  rw [hk]
  show wB cf rest r o ((s ++ [_]).set s.length _) K' R
  rw [new_end]; exact k
theorem kn_win {P : PV} (hL : s.length = L) (k : P (.loc L) (s ++ [winW (win0 l)])) : Call (callF (n + 1)) .x_Window .x___init__ [.loc s.length, .d (.int l)] (s ++ [.inst .x_Window []]) (kNew2 s.length P) := by
  have k : kNew2 s.length P (.d .none) (s ++ [winW (win0 l)]) := hL.symm ▸ k
  exact ⟨self_b (fun _ k => k) rfl rfl (self_b (fun _ k => k) rfl rfl (self_b (fun _ k => k) rfl rfl (self_b (fun _ k => k) rfl rfl (self_b (fun _ k => k) rfl rfl k))))⟩
theorem kn_rcv (w : List UInt8) {P : PV} (hL : s.length = L) (k : P (.loc L) (s ++ [rcC w l rcv0])) : Call (callF (n + 1)) .x_RecvPart .x___init__ [.loc s.length, .d (.int l)] (s ++ [.inst .x_RecvPart []]) (kNew2 s.length P) := by
  have k : kNew2 s.length P (.d .none) (s ++ [rcC w l rcv0]) := hL.symm ▸ k
  exact ⟨self_b (fun _ k => k) rfl rfl (self_b (fun _ k => k) rfl rfl (self_b (fun _ k => k) rfl rfl (self_b (fun _ k => k) rfl rfl (self_b (fun _ k => k) rfl rfl (self_b (fun _ k => k) rfl rfl (self_b (fun _ k => k) rfl rfl (self_b (fun _ k => k) rfl rfl k)))))))⟩
theorem kn_snd {P : PV} (hL : s.length = L) (k : P (.loc L) (s ++ [sndC [] false (snd0 l)])) : Call (callF (n + 1)) .x_SendPart .x___init__ [.loc s.length, .d (.int l)] (s ++ [.inst .x_SendPart []]) (kNew2 s.length P) := by
  have k : kNew2 s.length P (.d .none) (s ++ [sndC [] false (snd0 l)]) := hL.symm ▸ k
  exact ⟨self_b (fun _ k => k) rfl rfl (self_b (fun _ k => k) rfl rfl (self_b (fun _ k => k) rfl rfl (self_b (fun _ k => k) rfl rfl (self_b (fun _ k => k) rfl rfl (self_b (fun _ k => k) rfl rfl (self_b (fun _ k => k) rfl rfl (self_b (fun _ k => k) rfl rfl (self_b (fun _ k => k) rfl rfl (self_b (fun _ k => k) rfl rfl (self_b (fun _ k => k) rfl rfl k))))))))))⟩
end
end
section
section
variable {n : Nat} {s : Store} {i c : Nat} {u b : Bool} {z : Int} {kd : N} {Q : V → Store → Prop}
theorem sm0 : small 0 := ⟨by decide, by decide⟩
abbrev KdOK (kd : N) : Prop := (decide (N.x_stream = kd) || (decide (N.x_reset_stream = kd) || (decide (N.x_stream_data_blocked = kd) || false))) = true
theorem brx {x : Bool} {A B : Prop} (h : x = true) (k : B) : @Bool.rec (fun _ => Prop) B A (!x) := by rw [h]; exact k
set_option maxHeartbeats 4000000 in
theorem take_peer (hk : KdOK kd) (h : s[i]? = some (idsC true c)) (hl : s[c + 2]? = some (twoC 1 1)) (hm : s[c + 4]? = some (twoC (bif u then z else b01 b) (bif u then b01 b else z)))
    (k : Q (.d (.lst (bif b then [] else [.int (sid u)]))) (s.set (c + 4) (twoC (bif u then z else 1) (bif u then 1 else z)))) : Call (callF (n + 3)) .x_StreamIds .x_take_id [.loc i, .d (.str kd), .d (.int (sid u))] s Q := by
  cases u <;> cases b <;> refine ⟨brx hk ?_⟩ <;> (repeat' first | refine ons h ?_ | refine ons hl ?_ | refine ons hm ?_ | refine And.intro (by decide) ?_ | refine And.intro (show _ from (by decide : (0 : Int) ≤ 0 ∧ (0 : Int) < 2 ∧ (0 : Int) < 1000000)) ?_ | refine And.intro (show _ from (by decide : (0 : Int) ≤ 1 ∧ (1 : Int) < 2 ∧ (1 : Int) < 1000000)) ?_ | refine And.intro (show _ from (⟨sm0, sm1⟩ : small 0 ∧ small 1)) ?_ | refine And.intro (show _ from (⟨sm1, sm1⟩ : small 1 ∧ small 1)) ?_ | refine And.intro (show _ from (by decide : (-1000000 : Int) < 4 ∧ (4 : Int) < 4294967296 ∧ (-1000000 : Int) < 0 ∧ (0 : Int) < 4294967296)) ?_ | refine And.intro (Nat.zero_le _) ?_ | refine And.intro (show _ from (by decide : 1 ≤ lim)) ?_ | refine Call.mk ?_ | refine Cmp.mk ?_ | exact k)
end
end
section
noncomputable def stX (W : Wd) (x a b c : Cell) (T : List Cell) : Store := ((((stP W T).set 25 x).set 30 a).set 31 b).set 32 c
noncomputable def d30 (W : Wd) : List (Key × V) := dk (fun u => .loc (cb W.ord + (sO W.kno u + 43))) (ff W.kno)
noncomputable def d31 (W : Wd) : List (Key × V) := dk (fun u => .loc (aR W.ord W.kno u)) W.kno
noncomputable def d32 (W : Wd) : List (Key × V) := dk (fun u => .loc (aW W.ord W.kno u)) W.kno
section
variable {n : Nat} {W : Wd} {u : Bool} {x : Cell} {T : List Cell} {L : Nat} {Q : V → Store → Prop} {kd : N}
theorem len2 : lim ≥ 2 := by decide
theorem mk_f (w : List UInt8) (hL : T.length + 39 = L) (k : Q (.d .none) (stX W x (.dict (putK (.i 0) (.loc L) (d30 W))) (.dict (putK (.i 0) (.loc (L + 1)) (d31 W))) (.dict (putK (.i 0) (.loc (L + 2)) (d32 W))) (T ++ [sndC [] false (snd0 W.p0.bl)] ++ [rcC w W.p1.br rcv0] ++ [winW (win0 W.p1.br)]))) :
    Call (callF (n + 3)) .x_StreamSet .x_make_parts [.loc 20, .d (.int 0)] ((stP W T).set 25 x) Q := by
  have l1 : ∀ {a b : Cell}, (((stP W T).set 25 x ++ [a]).set 30 b).length = L + 1 := by intros; rw [List.length_set, List.length_append]; exact congrArg (· + 1) hL
  have l2 : ∀ {a b c d : Cell}, ((((stP W T).set 25 x ++ [a]).set 30 b ++ [c]).set 31 d).length = L + 2 := by intros; rw [List.length_set, List.length_append]; exact congrArg (· + 1) l1
  have dl : ∀ {f : Bool → V} {o : Od}, (dk f o).length ≤ lim := Nat.le_trans dk_len len2
  exact ⟨⟨⟨by decide, by decide, ⟨⟨⟨by decide, by decide, ⟨by decide, kn_snd hL ⟨dl, ⟨⟨by decide, by decide, ⟨⟨by decide, by decide, ⟨by decide, kn_rcv w l1 ⟨dl, kn_win l2 ⟨dl, k⟩⟩⟩⟩⟩⟩⟩⟩⟩⟩⟩⟩⟩⟩⟩
theorem mk_t (w : List UInt8) (hL : T.length + 39 = L) (k : Q (.d .none) (stX W x (.dict (d30 W)) (.dict (putK (.i 2) (.loc L) (d31 W))) (.dict (putK (.i 2) (.loc (L + 1)) (d32 W))) (T ++ [rcC w W.p1.un rcv0] ++ [winW (win0 W.p1.un)]))) :
    Call (callF (n + 3)) .x_StreamSet .x_make_parts [.loc 20, .d (.int 2)] ((stP W T).set 25 x) Q := by
  have l1 : ∀ {a b : Cell}, (((stP W T).set 25 x ++ [a]).set 31 b).length = L + 1 := by intros; rw [List.length_set, List.length_append]; exact congrArg (· + 1) hL
  have dl : ∀ {f : Bool → V} {o : Od}, (dk f o).length ≤ lim := Nat.le_trans dk_len len2
  exact ⟨⟨⟨by decide, by decide, ⟨by decide, ⟨⟨by decide, by decide, ⟨by decide, ⟨⟨by decide, by decide, kn_rcv w hL ⟨dl, kn_win l1 ⟨dl, k⟩⟩⟩⟩⟩⟩⟩⟩⟩⟩⟩
noncomputable def opW (W : Wd) (u : Bool) : Wd := { W with kno := W.kno.add u, log := bif W.kno.has u then W.log else W.log + 1 }
noncomputable def owW (p : Par) (u : Bool) : Int := @Bool.rec (fun _ => Int) p.br p.un u
noncomputable def tlW (W : Wd) : List Cell := cliL W ++ wldC W.ord W.wr W.fly :: rdC W.rk W.wr W.rd :: ovC W.vk W.ovr :: inC W.sk W.sent :: srvL W
theorem tl_len (h : W.kno.has u = false) : (tlW W).length + 39 = cb W.ord + (sO (W.kno.add u) u + 43) := by
  have hc : (cliL W).length = cb W.ord := Od.casesOn (motive := fun o => (cP o [_, _, _] [_]).length = cb o) W.ord rfl rfl rfl rfl rfl
  have hs : (srvL W).length = sO (W.kno.add u) u := by unfold srvL; revert h; generalize W.kno = o; cases o <;> cases u <;> intro h <;> first | rfl | cases h
  rw [tlW, List.length_append, hc, ← hs]; rfl
theorem open_f (h : W.kno.has false = false) : (stX W (twoC 1 (b01 (W.kno.has true))) (.dict (putK (.i 0) (.loc (cb W.ord + (sO (W.kno.add false) false + 43))) (d30 W))) (.dict (putK (.i 0) (.loc (cb W.ord + (sO (W.kno.add false) false + 43) + 1)) (d31 W))) (.dict (putK (.i 0) (.loc (cb W.ord + (sO (W.kno.add false) false + 43) + 2)) (d32 W)))
    (tlW W ++ [sndC [] false (snd0 W.p0.bl)] ++ [rcC (W.wr false) (W.rlm false) (W.rcv false)] ++ [winW (W.win false)])).set 34 (.log (W.log + 1)) = stOf { W with kno := W.kno.add false, log := W.log + 1 } := by
  rw [tlW, List.append_assoc, List.append_assoc, List.append_assoc]
  obtain ⟨pa, sc, pi, p0, p1, turn, ord, wr, cl, cu, ct, snd, bk, bz, kno, rlm, rcv, win, wi, log, lall, lims, sk, sent, rk, rd, vk, ovr, fly⟩ := W
  cases kno <;> first | rfl | cases h
theorem open_t (h : W.kno.has true = false) : (stX W (twoC (b01 (W.kno.has false)) 1) (.dict (d30 W)) (.dict (putK (.i 2) (.loc (cb W.ord + (sO (W.kno.add true) true + 43))) (d31 W))) (.dict (putK (.i 2) (.loc (cb W.ord + (sO (W.kno.add true) true + 43) + 1)) (d32 W)))
    (tlW W ++ [rcC (W.wr true) (W.rlm true) (W.rcv true)] ++ [winW (W.win true)])).set 34 (.log (W.log + 1)) = stOf { W with kno := W.kno.add true, log := W.log + 1 } := by
  rw [tlW, List.append_assoc, List.append_assoc]
  obtain ⟨pa, sc, pi, p0, p1, turn, ord, wr, cl, cu, ct, snd, bk, bz, kno, rlm, rcv, win, wi, log, lall, lims, sk, sent, rk, rd, vk, ovr, fly⟩ := W
  cases kno <;> first | rfl | cases h
end
end
section
section
variable {n : Nat} {W : Wd} {u : Bool} {Q : V → Store → Prop} {kd : N}
theorem opW_has (h : W.kno.has u = true) : opW W u = W := by unfold opW; rw [add_has h, h]; rfl
theorem opW_new (h : W.kno.has u = false) : opW W u = { W with kno := W.kno.add u, log := W.log + 1 } := by unfold opW; rw [h]; rfl
abbrev UnK (W : Wd) : Prop := ∀ u, W.kno.has u = false → W.rcv u = rcv0 ∧ W.win u = win0 (owW W.p1 u) ∧ W.rlm u = owW W.p1 u
theorem opened (hk : KdOK kd) (r0 : UnK W) (hl : W.log < lim) (k : Q (.d .none) (stOf (opW W u))) : Call (callF (n + 4)) .x_StreamSet .x_opened_by [.loc 20, .d (.str kd), .d (.int (sid u))] (stOf W) Q := by
  refine ⟨take_peer (i := 21) (c := 21) (u := u) (b := W.kno.has u) (z := b01 (W.kno.has (!u))) hk rfl rfl (by cases u <;> rfl) (b2 (W.kno.has u) (fun h => ?_) fun h => ?_)⟩
  · rw [opW_has h] at k
    rw [h]
    refine ⟨?_⟩
    rw [set_same (by revert h; cases u <;> (intro h; show some (twoC (b01 (W.kno.has false)) (b01 (W.kno.has true))) = _; rw [h]; rfl))]
    exact k
  · rw [opW_new h] at k
    rw [h]
    have q := r0 u h
    refine ⟨?_⟩
    cases u
    · rw [← open_f h, q.1, q.2.1, q.2.2] at k
      exact mk_f (T := tlW W) (W.wr false) (tl_len h) ⟨hl, k⟩
    · rw [← open_t h, q.1, q.2.1, q.2.2] at k
      exact mk_t (T := tlW W) (W.wr true) (tl_len h) ⟨hl, k⟩
end
end
section
section
variable {n : Nat} {W : Wd} {u : Bool} {Q : V → Store → Prop} {lo hi m : Int} {e : Bool}
noncomputable def gotX (x : Win) (m : Int) : Win := ⟨x.sz, x.lm, x.got + m, x.usd, x.ow⟩
noncomputable def redX (x : Win) (m : Int) : Win := ⟨x.sz, x.lm, x.got, x.usd + m, x.ow⟩
noncomputable def gotW (W : Wd) (u : Bool) (p' : Rcv) (m : Int) : Wd := { W with rcv := bup W.rcv u p', win := bup W.win u (gotX (W.win u) m), wi := gotX W.wi m, log := W.log + 1 }
noncomputable def redW (W : Wd) (u : Bool) (p' : Rcv) (m : Int) : Wd := { W with rcv := bup W.rcv u p', win := bup W.win u (redX (W.win u) m), wi := redX W.wi m }
theorem bup_same {α : Type} {f : Bool → α} : bup f u (f u) = f := funext fun v => by cases u <;> cases v <;> rfl
theorem redX0 {x : Win} (h : m = 0) : redX x m = x := by subst h; exact congrArg (fun z => Win.mk x.sz x.lm x.got z x.ow) (Int.add_zero _)
theorem winX_got {s : Store} {i : Nat} {x : Win} (h : s[i]? = some (winW x)) (hm : x.got + m ≤ x.lm) (k : Q (.d .none) (s.set i (winW (gotX x m)))) : Call (callF (n + 1)) .x_Window .x_on_got [.loc i, .d (.int m)] s Q := win_got h (ln hm) k
theorem winX_read {s : Store} {i : Nat} {x : Win} (h : s[i]? = some (winW x)) (k : Q (.d .none) (s.set i (winW (redX x m)))) : Call (callF (n + 1)) .x_Window .x_on_read [.loc i, .d (.int m)] s Q := win_read h k
theorem settle0 (hu : W.kno.has u = true) (h : (W.rcv u).rt ≤ (W.win u).usd) (k : Q (.d .none) (stOf W)) : Call (callF (n + 2)) .x_StreamSet .x_settle [.loc 20, .d (.int (sid u))] (stOf W) Q :=
  ⟨ons (look_dk hu) (ons (look_dk hu) (ons (look_rcv hu) (rcv_used (look_rcv hu) (ons (look_win hu) (br_f (ln (Int.sub_nonpos_of_le h)) k)))))⟩
theorem on_st (hu : W.kno.has u = true) (I : RA (W.wr u) (W.rcv u)) (hw : (W.wr u).length ≤ 60) (lo0 : 0 ≤ lo) (lh : lo ≤ hi) (hN : hi ≤ (W.wr u).length) (he : e = true → hi = (W.wr u).length) (hL : hi ≤ W.rlm u)
    (h1 : (W.win u).got + max 0 (hi - (W.rcv u).hi) ≤ (W.win u).lm) (h2 : W.wi.got + max 0 (hi - (W.rcv u).hi) ≤ W.wi.lm) (h3 : (W.rcv u).rt ≤ (W.win u).usd) (hl : W.log < lim)
    (k : ∀ p', RA (W.wr u) p' → GotR (W.rcv u) lo hi e p' → Q (.d .none) (stOf (gotW W u p' (max 0 (hi - (W.rcv u).hi))))) : Call (callF (n + 5)) .x_StreamSet .x_on_sender_frame [.loc 20, .d (fSt (W.wr u) u lo hi e)] (stOf W) Q := by
  refine ⟨⟨by decide, by decide, ons (look_dk hu) (ons (look_rcv hu) ⟨by decide, by decide, by decide, rcv_stream (look_rcv hu) I hw lo0 lh hN he hL fun p' I' G => ?_⟩)⟩⟩
  rw [set_rcv hu]
  refine ons (look_dk hu) (ons (look_win (W := { W with rcv := bup W.rcv u p' }) hu) (winX_got (look_win (W := { W with rcv := bup W.rcv u p' }) hu) h1 ?_))
  rw [set_win (W := { W with rcv := bup W.rcv u p' }) hu]
  refine winX_got (x := W.wi) rfl h2 ⟨hl, settle0 (W := gotW W u p' (max 0 (hi - (W.rcv u).hi))) hu ?_ (k p' I' G)⟩
  show (bup W.rcv u p' u).rt ≤ (bup W.win u _ u).usd
  rw [bup_self, bup_self]
  exact G.rt ▸ h3
end
end
section
section
variable {n : Nat} {s : Store} {i c : Nat} {u : Bool} {z : Int} {Q : V → Store → Prop}
set_option maxHeartbeats 4000000 in
theorem take_own (h : s[i]? = some (idsC false c)) (hm : s[c + 3]? = some (twoC (bif u then z else 1) (bif u then 1 else z))) (k : Q (.d (.lst [])) s) : Call (callF (n + 3)) .x_StreamIds .x_take_id [.loc i, .d (.str .x_max_stream_data), .d (.int (sid u))] s Q := by
  cases u <;> refine ⟨?_⟩ <;> (repeat' first | refine ons h ?_ | refine ons hm ?_ | refine And.intro (by decide) ?_ | refine And.intro (show _ from (by decide : (0 : Int) ≤ 0 ∧ (0 : Int) < 2 ∧ (0 : Int) < 1000000)) ?_ | refine And.intro (show _ from (by decide : (0 : Int) ≤ 1 ∧ (1 : Int) < 2 ∧ (1 : Int) < 1000000)) ?_ | refine Call.mk ?_ | exact k)
end
section
variable {n : Nat} {W : Wd} {u : Bool} {Q : V → Store → Prop} {lo hi l : Int} {e : Bool}
theorem gotX0 {x : Win} : gotX x 0 = x := congrArg (fun z => Win.mk x.sz x.lm z x.usd x.ow) (Int.add_zero _)
theorem opW_hu : (opW W u).kno.has u = true := has_add
theorem frame_st (hr : UnK W) (I : RA (W.wr u) (W.rcv u)) (hw : (W.wr u).length ≤ 60) (lo0 : 0 ≤ lo) (lh : lo ≤ hi) (hN : hi ≤ (W.wr u).length) (he : e = true → hi = (W.wr u).length) (hL : hi ≤ W.rlm u)
    (h1 : (W.win u).got + max 0 (hi - (W.rcv u).hi) ≤ (W.win u).lm) (h2 : W.wi.got + max 0 (hi - (W.rcv u).hi) ≤ W.wi.lm) (h3 : (W.rcv u).rt ≤ (W.win u).usd) (hl : W.log < lim) (hl2 : (opW W u).log < lim)
    (k : ∀ p', RA (W.wr u) p' → GotR (W.rcv u) lo hi e p' → Q (.d .none) (stOf (gotW (opW W u) u p' (max 0 (hi - (W.rcv u).hi))))) : Call (callF (n + 6)) .x_StreamSet .x_on_frame [.loc 20, .d (fSt (W.wr u) u lo hi e)] (stOf W) Q :=
  ⟨⟨by decide, ⟨by decide, opened (n := n + 1) rfl hr hl (on_st (n := n) (W := opW W u) opW_hu I hw lo0 lh hN he hL h1 h2 h3 hl2 k)⟩⟩⟩
theorem frame_sdb (hr : UnK W) (h1 : (W.win u).got ≤ (W.win u).lm) (h2 : W.wi.got ≤ W.wi.lm) (h3 : (W.rcv u).rt ≤ (W.win u).usd) (hl : W.log < lim) (k : Q (.d .none) (stOf (opW W u))) :
    Call (callF (n + 6)) .x_StreamSet .x_on_frame [.loc 20, .d (.tup [.str .x_stream_data_blocked, .int (sid u), .int l])] (stOf W) Q := by
  have hu := opW_hu (W := W) (u := u)
  refine ⟨⟨by decide, ⟨by decide, opened (n := n + 1) rfl hr hl ⟨⟨by decide, by decide, ons (look_dk hu) (ons (look_dk hu) (ons (look_win hu) (winX_got (m := 0) (look_win hu) (Int.add_zero _ ▸ h1) ?_)))⟩⟩⟩⟩⟩
  rw [gotX0, set_same (look_win hu)]
  refine winX_got (x := (opW W u).wi) (m := 0) rfl (Int.add_zero _ ▸ h2) ?_
  rw [gotX0]
  exact settle0 hu h3 k
theorem frame_db (hl : W.log < lim) (k : Q (.d .none) (stOf { W with log := W.log + 1 })) : Call (callF (n + 6)) .x_StreamSet .x_on_frame [.loc 20, .d (.tup [.str .x_data_blocked, .int l])] (stOf W) Q := ⟨⟨by decide, ⟨hl, k⟩⟩⟩
theorem frame_md (k : Q (.d .none) (stOf { W with cl := max W.cl l })) : Call (callF (n + 6)) .x_StreamSet .x_on_frame [.loc 4, .d (.tup [.str .x_max_data, .int l])] (stOf W) Q := ⟨⟨by decide, ⟨by decide, cr_raise rfl fun _ => k⟩⟩⟩
theorem frame_msd (hu : W.ord.has u = true) (k : Q (.d .none) (stOf { W with snd := bup W.snd u { W.snd u with lm := max (W.snd u).lm l } })) : Call (callF (n + 6)) .x_StreamSet .x_on_frame [.loc 4, .d (.tup [.str .x_max_stream_data, .int (sid u), .int l])] (stOf W) Q := by
  rw [← set_snd hu] at k
  refine ⟨⟨by decide, ⟨by decide, ⟨take_own (i := 5) (c := 5) (u := u) (z := b01 (W.ord.has (!u))) rfl (by revert hu; cases u <;> (intro hu; show some (twoC (b01 (W.ord.has false)) (b01 (W.ord.has true))) = _; rw [hu]; rfl)) ⟨⟨by decide, by decide, ons (look_dk hu) (ons (look_snd hu) ⟨by decide, snd_raise (look_snd hu) k⟩)⟩⟩⟩⟩⟩⟩
end
end
section
theorem brY {x : Bool} {A B : Prop} (h : x = true) (k : A) : @Bool.rec (fun _ => Prop) B A x := by rw [h]; exact k
theorem in_yes {f : Bool → V} {o : Od} {u : Bool} (h : o.has u = true) : (lookK (.i (sid u)) (dk f o)).isSome = true := by rw [look_dk h]; rfl
theorem eq_get {f : Bool → Int} {o : Od} {u : Bool} {l : Int} {P : Bool → Prop} (k0 : P false) (k1 : o.has u = true → P true) : eqP ((lookK (.i (sid u)) (dk (fun v => .d (.int (f v))) o)).getD (.d .none)) (.d (.int l)) P :=
  b2 (o.has u) (fun h => by
    rw [look_dk h]
    show P (decide (f u = l))
    by_cases c : f u = l
    · rw [decide_eq_true c]; exact k1 h
    · rw [decide_eq_false c]; exact k0) fun h => by rw [look_no h]; exact k0
section
variable {n : Nat} {W : Wd} {u : Bool} {Q : V → Store → Prop} {lo hi l : Int} {e : Bool}
noncomputable def sndU (W : Wd) (u : Bool) (p' : SndP) : Wd := { W with snd := bup W.snd u p' }
noncomputable def owX (x : Win) (o : Bool) : Win := ⟨x.sz, x.lm, x.got, x.usd, o⟩
theorem winX_lost {s : Store} {i : Nat} {x : Win} (h : s[i]? = some (winW x)) (k : ∀ o, (x.ow = true → o = true) → (l = x.lm → o = true) → Q (.d .none) (s.set i (winW (owX x o)))) : Call (callF (n + 1)) .x_Window .x_on_limit_lost [.loc i, .d (.int l)] s Q := win_lost h k
theorem ack_st (hu : W.ord.has u = true) (I : SA (W.wr u) (W.snd u)) (h0 : 0 ≤ lo) (lh : lo ≤ hi) (h1 : hi ≤ (W.snd u).to) (k : ∀ p', SA (W.wr u) p' → AckR (W.snd u) lo hi e p' → Q (.d .none) (stOf (sndU W u p'))) :
    Call (callF (n + 3)) .x_StreamSet .x_on_acked [.loc 4, .d (fSt (W.wr u) u lo hi e)] (stOf W) Q := by
  have hN := let' h1 I.tN
  have el : lo + ((oc (W.wr u) lo hi).length : Int) = hi := by rw [oc_len h0 lh hN, asb]
  refine ⟨⟨by decide, ⟨by decide, brY (in_yes hu) ⟨by decide, ons (look_dk hu) (ons (look_snd hu) ⟨by decide, by decide, lm100 (Nat.le_trans oc_le (Nat.le_trans (Int.ofNat_le.mp I.n) (by decide))), by decide, snd_acked (look_snd hu) I h0 (let' (Int.le_of_eq el) h1) fun p' I' R => ?_⟩)⟩⟩⟩⟩
  rw [set_snd hu]
  exact k p' I' (el ▸ R)
theorem lost_st (hu : W.ord.has u = true) (I : SA (W.wr u) (W.snd u)) (hr : (W.snd u).st ≠ .rdy) (h0 : 0 ≤ lo) (lh : lo ≤ hi) (h1 : hi ≤ (W.snd u).to) (k : ∀ p', SA (W.wr u) p' → LosR (W.snd u) lo hi e p' → Q (.d .none) (stOf (sndU W u p'))) :
    Call (callF (n + 4)) .x_StreamSet .x_on_lost [.loc 4, .d (fSt (W.wr u) u lo hi e)] (stOf W) Q := by
  have hN := let' h1 I.tN
  have el : lo + ((oc (W.wr u) lo hi).length : Int) = hi := by rw [oc_len h0 lh hN, asb]
  refine ⟨⟨by decide, ⟨by decide, ons (look_dk hu) (ons (look_snd hu) ⟨by decide, by decide, lm100 (Nat.le_trans oc_le (Nat.le_trans (Int.ofNat_le.mp I.n) (by decide))), by decide, snd_lost (look_snd hu) I h0 (let' (Int.le_of_eq el) h1) hr fun p' I' R => ?_⟩)⟩⟩⟩
  rw [set_snd hu]
  exact k p' I' (el ▸ R)
def NSt (f : Fr) : Prop := f.casesOn (fun _ _ _ _ => False) (fun _ => True) (fun _ _ => True) (fun _ _ => True) fun _ => True
theorem ack_no {v : Bool} {f : Fr} {g : Bool → List UInt8} (hf : NSt f) (k : Q (.d .none) (stOf W)) : Call (callF (n + 3)) .x_StreamSet .x_on_acked [.loc (@Bool.rec (fun _ => Nat) 4 20 v), .d (frD g f)] (stOf W) Q := by
  cases f <;> first | exact hf.elim | exact ⟨⟨by decide, by decide, k⟩⟩
theorem lost_sdb (k : ∀ o, Q (.d .none) (stOf { W with bk := o })) : Call (callF (n + 4)) .x_StreamSet .x_on_lost [.loc 4, .d (.tup [.str .x_stream_data_blocked, .int (sid u), .int l])] (stOf W) Q :=
  ⟨⟨by decide, ⟨by decide, ⟨by decide, eq_get (k W.bk) fun h => ⟨by decide, Nat.le_trans dk_len (by decide), ons (look_dk h) (by rw [del_dk (look_dk h)]; exact k (W.bk.del u))⟩⟩⟩⟩⟩
theorem lost_db (k : ∀ c, Q (.d .none) (stOf { W with ct := c })) : Call (callF (n + 4)) .x_StreamSet .x_on_lost [.loc 4, .d (.tup [.str .x_data_blocked, .int l])] (stOf W) Q :=
  ⟨⟨by decide, ⟨by decide, cr_lost rfl k⟩⟩⟩
theorem lost_md (k : ∀ o, (W.wi.ow = true → o = true) → (l = W.wi.lm → o = true) → Q (.d .none) (stOf { W with wi := owX W.wi o })) : Call (callF (n + 4)) .x_StreamSet .x_on_lost [.loc 20, .d (.tup [.str .x_max_data, .int l])] (stOf W) Q :=
  ⟨⟨by decide, ⟨by decide, winX_lost (x := W.wi) rfl k⟩⟩⟩
theorem lost_msd (hu : W.kno.has u = true) (k : ∀ o, ((W.win u).ow = true → o = true) → (l = (W.win u).lm → o = true) → Q (.d .none) (stOf { W with win := bup W.win u (owX (W.win u) o) })) : Call (callF (n + 4)) .x_StreamSet .x_on_lost [.loc 20, .d (.tup [.str .x_max_stream_data, .int (sid u), .int l])] (stOf W) Q := by
  refine ⟨⟨by decide, ⟨by decide, ons (look_dk hu) (ons (look_win hu) ⟨by decide, winX_lost (look_win hu) fun o a b => ?_⟩)⟩⟩⟩
  rw [set_win hu]; exact k o a b
end
end
section
noncomputable def arrF (F : Fly) (i : Nat) (v : Bool) (f : Fr) (kept : Bool) : Fly := (F.take i ++ F.drop (i + 1)) ++ (bif kept then [(v, f, false)] else [])
section
variable {n : Nat} {W : Wd} {u v b kept : Bool} {Q : V → Store → Prop} {lo hi l : Int} {e : Bool} {i : Nat} {f : Fr}
theorem fly_at {F : Fly} {w : Bool → List UInt8} {x : Bool × Fr × Bool} (h : F[i]? = some x) : (F.map (flD w))[i]? = some (flD w x) := by rw [List.getElem?_map, h]; rfl
theorem fly_lt {F : Fly} {x : Bool × Fr × Bool} (h : F[i]? = some x) (hF : F.length ≤ 100000) : (0 : Int) ≤ (i : Int) ∧ (i : Int) < 1000000 := ⟨Int.natCast_nonneg i, Int.ofNat_lt.mpr (Nat.lt_of_lt_of_le (List.getElem?_eq_some_iff.mp h).1 (Nat.le_trans hF (by decide : 100000 ≤ 1000000)))⟩
theorem arr_end {v1 : Option V} (hF : W.fly.length ≤ 100000) (k : Q (.d .none) (stOf (flyW W (arrF W.fly i v f kept)))) :
    wB (callF n) (f__law_arrives.body.drop 5) [some (.loc (cb W.ord + 39)), some (.d (.int i)), some (.d (.bool kept)), v1, some (.d (.int (b01 v))), some (.d (frD W.wr f)), some (.d (.bool b))] none (stOf W) (kEnd Q) Q := by
  have h0 : (0 : Int) ≤ (i : Int) := Int.natCast_nonneg i
  have hl : (W.fly.map (flD W.wr)).length ≤ lim := (List.length_map (as := W.fly) (flD W.wr)).symm ▸ Nat.le_trans hF (by decide)
  have ht : ((W.fly.map (flD W.wr)).take i ++ (W.fly.map (flD W.wr)).drop (i + 1)).length + 1 ≤ lim := by
    rw [List.length_append, List.length_take, List.length_drop, List.length_map]
    exact Nat.le_trans (Nat.succ_le_succ (Nat.add_le_add (Nat.min_le_right _ _) (Nat.sub_le _ _))) (Nat.le_trans (Nat.succ_le_succ (Nat.add_le_add hF hF)) (by decide))
  have eq : (W.fly.take i ++ W.fly.drop (i + 1)).map (flD W.wr) = (W.fly.map (flD W.wr)).take i ++ (W.fly.map (flD W.wr)).drop (i + 1) := by rw [List.map_append, List.map_take, List.map_drop]
  refine ons look_w ⟨h0, hl, ons look_w ⟨Int.le_add_one h0, hl, ?_, ?_⟩⟩
  · rw [← List.length_append]; exact Nat.le_of_succ_le ht
  · rw [flyW, ← set_w, wldC, arrF, List.map_append, eq] at k
    cases kept
    · rw [show List.map (flD W.wr) (bif false then [(v, f, false)] else []) = [] from rfl, List.append_nil] at k
      exact ons look_w ⟨(by decide : 7 ≤ lim), k⟩
    · exact ⟨ht, ons look_w ⟨(by decide : 7 ≤ lim), k⟩⟩
end
end
section
section
variable {n : Nat} {W : Wd} {u b kept : Bool} {Q : V → Store → Prop} {lo hi l : Int} {e : Bool} {i : Nat}
theorem i0 : (0 : Int) ≤ 0 ∧ (0 : Int) < 1000000 := by decide
theorem i1 : (0 : Int) ≤ 1 ∧ (1 : Int) < 1000000 := by decide
def AckQ (b : Bool) (p : SndP) (lo hi : Int) (e : Bool) (p' : SndP) : Prop := b = true ∧ AckR p lo hi e p' ∨ b = false ∧ p' = p
theorem arr_st (hi_ : W.fly[i]? = some (false, .st u lo hi e, b)) (hF : W.fly.length ≤ 100000) (hr : UnK W) (I : RA (W.wr u) (W.rcv u)) (lo0 : 0 ≤ lo) (lh : lo ≤ hi) (he : e = true → hi = (W.wr u).length) (hL : hi ≤ W.rlm u)
    (h1 : (W.win u).got + max 0 (hi - (W.rcv u).hi) ≤ (W.win u).lm) (h2 : W.wi.got + max 0 (hi - (W.rcv u).hi) ≤ W.wi.lm) (h3 : (W.rcv u).rt ≤ (W.win u).usd) (hl : W.log < lim) (hl2 : (opW W u).log < lim) (hu : W.ord.has u = true) (J : SA (W.wr u) (W.snd u)) (ht : hi ≤ (W.snd u).to)
    (k : ∀ p' p'', RA (W.wr u) p' → GotR (W.rcv u) lo hi e p' → SA (W.wr u) p'' → AckQ b (W.snd u) lo hi e p'' → Q (.d .none) (stOf (flyW (sndU (gotW (opW W u) u p' (max 0 (hi - (W.rcv u).hi))) u p'') (arrF W.fly i false (.st u lo hi e) kept)))) :
    Call (callF (n + 7)) .x_law .x__law_arrives [.loc (cb W.ord + 39), .d (.int i), .d (.bool kept)] (stOf W) Q := by
  refine ⟨ons look_w ⟨fly_lt hi_ hF, ons (fly_at hi_) ⟨rfl, ons look_w ⟨i1, frame_st (n := n) hr I (Int.ofNat_le.mp (let' J.n (by decide))) lo0 lh (let' ht J.tN) he hL h1 h2 h3 hl hl2 fun p' I' G => brB (fun hb => ?_) fun hb => ?_⟩⟩⟩⟩
  · exact ons (look_w (W := gotW (opW W u) u p' _)) ⟨i0, ack_st (n := n + 3) (W := gotW (opW W u) u p' (max 0 (hi - (W.rcv u).hi))) hu J lo0 lh ht fun p'' J' R => ⟨by decide, by decide, arr_end (W := sndU (gotW (opW W u) u p' _) u p'') (v := false) (f := .st u lo hi e) (b := b) hF (k p' p'' I' G J' (.inl ⟨hb, R⟩))⟩⟩
  · have k := k p' (W.snd u) I' G J (.inr ⟨hb, rfl⟩)
    exact ⟨by decide, by decide, arr_end (W := gotW (opW W u) u p' _) (v := false) (f := .st u lo hi e) (b := b) hF (by rw [sndU, show bup (gotW (opW W u) u p' (max 0 (hi - (W.rcv u).hi))).snd u (W.snd u) = (gotW (opW W u) u p' (max 0 (hi - (W.rcv u).hi))).snd from bup_same] at k; exact k)⟩
theorem arr_sdb (hi_ : W.fly[i]? = some (false, .sdb u l, b)) (hF : W.fly.length ≤ 100000) (hr : UnK W) (h1 : (W.win u).got ≤ (W.win u).lm) (h2 : W.wi.got ≤ W.wi.lm) (h3 : (W.rcv u).rt ≤ (W.win u).usd) (hl : W.log < lim)
    (k : Q (.d .none) (stOf (flyW (opW W u) (arrF W.fly i false (.sdb u l) kept)))) : Call (callF (n + 7)) .x_law .x__law_arrives [.loc (cb W.ord + 39), .d (.int i), .d (.bool kept)] (stOf W) Q := by
  have fin : wB (callF (n + 6)) (f__law_arrives.body.drop 3) [some (.loc (cb W.ord + 39)), some (.d (.int i)), some (.d (.bool kept)), none, some (.d (.int 0)), some (.d (frD W.wr (.sdb u l))), some (.d (.bool b))] none (stOf (opW W u)) (kEnd Q) Q := ⟨by decide, by decide, arr_end (W := opW W u) (v := false) (f := .sdb u l) (b := b) hF k⟩
  exact ⟨ons look_w ⟨fly_lt hi_ hF, ons (fly_at hi_) ⟨rfl, ons look_w ⟨i1, frame_sdb (n := n) hr h1 h2 h3 hl (brB (fun _ => ons (look_w (W := opW W u)) ⟨i0, ack_no (n := n + 3) (W := opW W u) (v := false) (f := .sdb u l) trivial fin⟩) fun _ => fin)⟩⟩⟩⟩
theorem arr_db (hi_ : W.fly[i]? = some (false, .db l, b)) (hF : W.fly.length ≤ 100000) (hl : W.log < lim) (k : Q (.d .none) (stOf (flyW { W with log := W.log + 1 } (arrF W.fly i false (.db l) kept)))) :
    Call (callF (n + 7)) .x_law .x__law_arrives [.loc (cb W.ord + 39), .d (.int i), .d (.bool kept)] (stOf W) Q := by
  have fin : wB (callF (n + 6)) (f__law_arrives.body.drop 3) [some (.loc (cb W.ord + 39)), some (.d (.int i)), some (.d (.bool kept)), none, some (.d (.int 0)), some (.d (frD W.wr (.db l))), some (.d (.bool b))] none (stOf { W with log := W.log + 1 }) (kEnd Q) Q := ⟨by decide, by decide, arr_end (W := { W with log := W.log + 1 }) (v := false) (f := .db l) (b := b) hF k⟩
  exact ⟨ons look_w ⟨fly_lt hi_ hF, ons (fly_at hi_) ⟨rfl, ons look_w ⟨i1, frame_db (n := n) hl (brB (fun _ => ons (look_w (W := { W with log := W.log + 1 })) ⟨i0, ack_no (n := n + 3) (W := { W with log := W.log + 1 }) (v := false) (f := .db l) trivial fin⟩) fun _ => fin)⟩⟩⟩⟩
noncomputable def mdW (W : Wd) (l : Int) : Wd := { W with cl := max W.cl l, lall := max W.lall l }
noncomputable def msdW (W : Wd) (u : Bool) (l : Int) : Wd := { W with snd := bup W.snd u { W.snd u with lm := max (W.snd u).lm l }, lims := bup W.lims u (max (W.lims u) l) }
theorem arr_md (hi_ : W.fly[i]? = some (true, .md l, b)) (hF : W.fly.length ≤ 100000) (k : Q (.d .none) (stOf (flyW (mdW W l) (arrF W.fly i true (.md l) kept)))) :
    Call (callF (n + 7)) .x_law .x__law_arrives [.loc (cb W.ord + 39), .d (.int i), .d (.bool kept)] (stOf W) Q := by
  have fin : wB (callF (n + 6)) (f__law_arrives.body.drop 3) [some (.loc (cb W.ord + 39)), some (.d (.int i)), some (.d (.bool kept)), none, some (.d (.int 1)), some (.d (frD W.wr (.md l))), some (.d (.bool b))] none (stOf { W with cl := max W.cl l }) (kEnd Q) Q := by
    refine ⟨by decide, ons (look_w (W := { W with cl := max W.cl l })) ⟨by decide, ons (look_w (W := { W with cl := max W.cl l })) ⟨Nat.le_trans (Nat.succ_le_succ dk_len) (by decide), ?_⟩⟩⟩
    exact ⟨by decide, arr_end (W := mdW W l) (v := true) (f := .md l) (b := b) hF k⟩
  exact ⟨ons look_w ⟨fly_lt hi_ hF, ons (fly_at hi_) ⟨rfl, ons look_w ⟨i0, frame_md (n := n) (brB (fun _ => ons (look_w (W := { W with cl := max W.cl l })) ⟨i1, ack_no (n := n + 3) (W := { W with cl := max W.cl l }) (v := true) (f := .md l) trivial fin⟩) fun _ => fin)⟩⟩⟩⟩
noncomputable def msdU (W : Wd) (u : Bool) (l : Int) : Wd := { W with snd := bup W.snd u { W.snd u with lm := max (W.snd u).lm l } }
theorem arr_msd (hi_ : W.fly[i]? = some (true, .msd u l, b)) (hF : W.fly.length ≤ 100000) (hu : W.ord.has u = true) (k : Q (.d .none) (stOf (flyW (msdW W u l) (arrF W.fly i true (.msd u l) kept)))) :
    Call (callF (n + 7)) .x_law .x__law_arrives [.loc (cb W.ord + 39), .d (.int i), .d (.bool kept)] (stOf W) Q := by
  have fin : wB (callF (n + 6)) (f__law_arrives.body.drop 3) [some (.loc (cb W.ord + 39)), some (.d (.int i)), some (.d (.bool kept)), none, some (.d (.int 1)), some (.d (frD W.wr (.msd u l))), some (.d (.bool b))] none (stOf (msdU W u l)) (kEnd Q) Q := by
    refine ⟨by decide, by decide, ons (look_w (W := msdU W u l)) ⟨by decide, ons (look_dk hu) ⟨by decide, ons (look_w (W := msdU W u l)) ⟨by decide, ⟨Nat.le_trans (Nat.succ_le_succ dk_len) (by decide), ?_⟩⟩⟩⟩⟩
    have fin := arr_end (n := n + 6) (W := msdW W u l) (v := true) (f := .msd u l) (b := b) (v1 := none) hF k
    have e : dk (fun v => V.d (.int ((msdW W u l).lims v))) W.ord = putK (.i (sid u)) (.d (.int (max (W.lims u) l))) (dk (fun v => .d (.int (W.lims v))) W.ord) := by
      rw [put_bup (g := fun _ z => .d (.int z)), add_has hu]; rfl
    have fin : wB (callF (n + 6)) (f__law_arrives.body.drop 5) [some (.loc (cb W.ord + 39)), some (.d (.int i)), some (.d (.bool kept)), none, some (.d (.int 1)), some (.d (frD W.wr (.msd u l))), some (.d (.bool b))] none ((stOf (msdU W u l)).set 38 (.dict ((.s .x_all, .d (.int W.lall)) :: putK (.i (sid u)) (.d (.int (max (W.lims u) l))) (dk (fun v => .d (.int (W.lims v))) W.ord)))) (kEnd Q) Q := by
      rw [← e]; exact fin
    exact fin
  exact ⟨ons look_w ⟨fly_lt hi_ hF, ons (fly_at hi_) ⟨rfl, ons look_w ⟨i0, frame_msd (n := n) hu (brB (fun _ => ons (look_w (W := msdU W u l)) ⟨i1, ack_no (n := n + 3) (W := msdU W u l) (v := true) (f := .msd u l) trivial fin⟩) fun _ => fin)⟩⟩⟩⟩
end
end
section
noncomputable def dropF (F : Fly) (i : Nat) : Fly := F.take i ++ F.drop (i + 1)
section
variable {n : Nat} {W : Wd} {u v b : Bool} {Q : V → Store → Prop} {lo hi l : Int} {e : Bool} {i : Nat} {f : Fr}
theorem los_end (hF : W.fly.length ≤ 100000) (k : Q (.d .none) (stOf (flyW W (dropF W.fly i)))) :
    wB (callF n) (f__law_is_lost.body.drop 2) [some (.loc (cb W.ord + 39)), some (.d (.int i)), some (.d (.int (b01 v))), some (.d (frD W.wr f)), some (.d (.bool b))] none (stOf W) (kEnd Q) Q := by
  have h0 : (0 : Int) ≤ (i : Int) := Int.natCast_nonneg i
  have hl : (W.fly.map (flD W.wr)).length ≤ lim := (List.length_map (as := W.fly) (flD W.wr)).symm ▸ Nat.le_trans hF (by decide)
  have ht : ((W.fly.map (flD W.wr)).take i).length + ((W.fly.map (flD W.wr)).drop (i + 1)).length ≤ lim := by
    rw [List.length_take, List.length_drop, List.length_map]
    exact Nat.le_trans (Nat.add_le_add (Nat.min_le_right _ _) (Nat.sub_le _ _)) (Nat.le_trans (Nat.add_le_add hF hF) (by decide))
  refine ons look_w ⟨h0, hl, ons look_w ⟨Int.le_add_one h0, hl, ht, ?_⟩⟩
  rw [flyW, ← set_w, wldC, dropF, List.map_append, List.map_take, List.map_drop] at k
  exact ons look_w ⟨(by decide : 7 ≤ lim), k⟩
theorem lose (hi_ : W.fly[i]? = some (v, f, b)) (hF : W.fly.length ≤ 100000) (k0 : b = false → Q (.d .none) (stOf (flyW W (dropF W.fly i))))
    (k1 : b = true → Call (callF (n + 4)) .x_StreamSet .x_on_lost [.loc (@Bool.rec (fun _ => Nat) 4 20 v), .d (frD W.wr f)] (stOf W) fun _ s => wB (callF (n + 4)) (f__law_is_lost.body.drop 2) [some (.loc (cb W.ord + 39)), some (.d (.int i)), some (.d (.int (b01 v))), some (.d (frD W.wr f)), some (.d (.bool b))] none s (kEnd Q) Q) :
    Call (callF (n + 5)) .x_law .x__law_is_lost [.loc (cb W.ord + 39), .d (.int i)] (stOf W) Q := by
  refine ⟨ons look_w ⟨fly_lt hi_ hF, ons (fly_at hi_) ⟨rfl, brB (fun hb => ?_) fun hb => los_end hF (k0 hb)⟩⟩⟩
  cases v
  · exact ons look_w ⟨i0, k1 hb⟩
  · exact ons look_w ⟨i1, k1 hb⟩
theorem los_st (hi_ : W.fly[i]? = some (false, .st u lo hi e, b)) (hF : W.fly.length ≤ 100000) (hu : W.ord.has u = true) (I : SA (W.wr u) (W.snd u)) (hr : (W.snd u).st ≠ .rdy) (h0 : 0 ≤ lo) (lh : lo ≤ hi) (h1 : hi ≤ (W.snd u).to)
    (k0 : b = false → Q (.d .none) (stOf (flyW W (dropF W.fly i)))) (k : b = true → ∀ p', SA (W.wr u) p' → LosR (W.snd u) lo hi e p' → Q (.d .none) (stOf (flyW (sndU W u p') (dropF W.fly i)))) : Call (callF (n + 5)) .x_law .x__law_is_lost [.loc (cb W.ord + 39), .d (.int i)] (stOf W) Q :=
  lose hi_ hF k0 fun hb => lost_st hu I hr h0 lh h1 fun p' I' R => los_end (W := sndU W u p') (v := false) (f := .st u lo hi e) (b := b) hF (k hb p' I' R)
theorem los_sdb (hi_ : W.fly[i]? = some (false, .sdb u l, b)) (hF : W.fly.length ≤ 100000) (k : ∀ o, Q (.d .none) (stOf (flyW { W with bk := o } (dropF W.fly i)))) : Call (callF (n + 5)) .x_law .x__law_is_lost [.loc (cb W.ord + 39), .d (.int i)] (stOf W) Q :=
  lose hi_ hF (fun _ => k W.bk) fun _ => lost_sdb fun o => los_end (W := { W with bk := o }) (v := false) (f := .sdb u l) (b := b) hF (k o)
theorem los_db (hi_ : W.fly[i]? = some (false, .db l, b)) (hF : W.fly.length ≤ 100000) (k : ∀ o, Q (.d .none) (stOf (flyW { W with ct := o } (dropF W.fly i)))) : Call (callF (n + 5)) .x_law .x__law_is_lost [.loc (cb W.ord + 39), .d (.int i)] (stOf W) Q :=
  lose hi_ hF (fun _ => k W.ct) fun _ => lost_db fun o => los_end (W := { W with ct := o }) (v := false) (f := .db l) (b := b) hF (k o)
def OwQ (b : Bool) (x : Win) (l : Int) (o : Bool) : Prop := (x.ow = true → o = true) ∧ (b = true → l = x.lm → o = true)
theorem los_md (hi_ : W.fly[i]? = some (true, .md l, b)) (hF : W.fly.length ≤ 100000) (k : ∀ o, OwQ b W.wi l o → Q (.d .none) (stOf (flyW { W with wi := owX W.wi o } (dropF W.fly i)))) : Call (callF (n + 5)) .x_law .x__law_is_lost [.loc (cb W.ord + 39), .d (.int i)] (stOf W) Q :=
  lose hi_ hF (fun hb => k W.wi.ow ⟨id, fun q => nomatch hb.symm.trans q⟩) fun _ => lost_md fun o a c => los_end (W := { W with wi := owX W.wi o }) (v := true) (f := .md l) (b := b) hF (k o ⟨a, fun _ => c⟩)
theorem los_msd (hi_ : W.fly[i]? = some (true, .msd u l, b)) (hF : W.fly.length ≤ 100000) (hu : W.kno.has u = true) (k : ∀ o, OwQ b (W.win u) l o → Q (.d .none) (stOf (flyW { W with win := bup W.win u (owX (W.win u) o) } (dropF W.fly i)))) : Call (callF (n + 5)) .x_law .x__law_is_lost [.loc (cb W.ord + 39), .d (.int i)] (stOf W) Q :=
  lose hi_ hF (fun hb => by have := k (W.win u).ow ⟨id, fun q => nomatch hb.symm.trans q⟩; rw [show bup W.win u (owX (W.win u) (W.win u).ow) = W.win from bup_same] at this; exact this) fun _ => lost_msd hu fun o a c => los_end (W := { W with win := bup W.win u (owX (W.win u) o) }) (v := true) (f := .msd u l) (b := b) hF (k o ⟨a, fun _ => c⟩)
end
end
section
noncomputable def stL (W : Wd) : Store := (stOf W).set 37 (.lock (wriL W.ord W.wr))
section
variable {n : Nat} {W : Wd} {u : Bool} {Q : V → Store → Prop} {m : Int}
section
variable {i : Nat} {x c L : Cell} {s : Store} {P : Store → Prop}
theorem n37 (h : 38 ≤ i) : 37 ≠ i := fun e => absurd (e ▸ h) (by decide)
theorem gL (h : 38 ≤ i) (k : s[i]? = some x) : (s.set 37 L)[i]? = some x := gs_ne (n37 h) k
theorem sL (h : 38 ≤ i) (k : P ((s.set i c).set 37 L)) : P ((s.set 37 L).set i c) := by rw [List.set_comm _ _ (n37 h)]; exact k
end
theorem aR38 {o k : Od} : 38 ≤ aR o k u := Nat.le_trans (by cases u <;> decide) (Nat.le_trans (Nat.le_add_left _ (sO k u)) (Nat.le_add_left _ (cb o)))
theorem aW38 {o k : Od} : 38 ≤ aW o k u := Nat.le_trans (by cases u <;> decide) (Nat.le_trans (Nat.le_add_left _ (sO k u)) (Nat.le_add_left _ (cb o)))
theorem cb38 {a b : Nat} (h : 38 ≤ b) : 38 ≤ a + b := Nat.le_trans h (Nat.le_add_left _ _)
theorem L_w : (stL W)[cb W.ord + 39]? = some (wldC W.ord W.wr W.fly) := gL (cb38 (by decide)) look_w
theorem L_rd : (stL W)[cb W.ord + 40]? = some (rdC W.rk W.wr W.rd) := gL (cb38 (by decide)) look_rd
theorem L_ov : (stL W)[cb W.ord + 41]? = some (ovC W.vk W.ovr) := gL (cb38 (by decide)) look_ov
theorem L_rcv (h : W.kno.has u = true) : (stL W)[aR W.ord W.kno u]? = some (rcC (W.wr u) (W.rlm u) (W.rcv u)) := gL aR38 (look_rcv h)
theorem L_win (h : W.kno.has u = true) : (stL W)[aW W.ord W.kno u]? = some (winW (W.win u)) := gL aW38 (look_win h)
theorem settle (hu : W.kno.has u = true) (h : (W.win u).usd ≤ (W.rcv u).rt) (k : Q (.d .none) (stL (redW W u (W.rcv u) ((W.rcv u).rt - (W.win u).usd)))) : Call (callF (n + 2)) .x_StreamSet .x_settle [.loc 20, .d (.int (sid u))] (stL W) Q := by
  refine ⟨ons (look_dk hu) (ons (look_dk hu) (ons (L_rcv hu) (rcv_used (L_rcv hu) (ons (L_win hu) (br (fun c => ons (L_win hu) (winX_read (L_win hu) (sL aW38 ?_))) fun c => ?_)))))⟩
  · rw [set_win hu]
    rw [redW, bup_same] at k
    exact winX_read (x := W.wi) rfl k
  · have z : (W.rcv u).rt - (W.win u).usd = 0 := Int.le_antisymm (nl c) (Int.sub_nonneg_of_le h)
    rw [redW, redX0 z, redX0 z, bup_same, bup_same] at k
    exact k
theorem read_from (hu : W.kno.has u = true) (I : RA (W.wr u) (W.rcv u)) (hw : (W.wr u).length ≤ 60) (hm : 0 ≤ m) (h : (W.win u).usd ≤ (W.rcv u).rt)
    (k : ∀ p', RA (W.wr u) p' → RdR (W.wr u) (W.rcv u) m p' → Q (.d (.tup [.bytes (oc (W.wr u) (W.rcv u).rt p'.rt), .bool (isRed p'.st)])) (stL (redW W u p' (p'.rt - (W.win u).usd)))) : Call (callF (n + 3)) .x_StreamSet .x_read_from [.loc 20, .d (.int (sid u)), .d (.int m)] (stL W) Q := by
  refine ⟨⟨brx (in_yes hu) (ons (look_dk hu) (ons (L_rcv hu) (rcv_read (L_rcv hu) I hw hm fun p' I' R => sL aR38 ?_)))⟩⟩
  rw [set_rcv hu]
  have k := k p' I' R
  have e : redW { W with rcv := bup W.rcv u p' } u (bup W.rcv u p' u) ((bup W.rcv u p' u).rt - (W.win u).usd) = redW W u p' (p'.rt - (W.win u).usd) := by
    rw [redW, bup_same (f := bup W.rcv u p'), bup_self]; rfl
  rw [← e] at k
  exact settle (W := { W with rcv := bup W.rcv u p' }) hu (by show _ ≤ (bup W.rcv u p' u).rt; rw [bup_self]; exact let' h R.le) k
end
end
section
section
variable {u : Bool} {o : Od}
theorem get_ov {f : Bool → Bool} : (lookK (.i (sid u)) (dk (fun v => .d (.bool (f v))) o)).getD (.d (.bool false)) = .d (.bool (bif o.has u then f u else false)) :=
  b2 (o.has u) (fun h => by rw [look_dk h, h]; rfl) fun h => by rw [look_no h, h]; rfl
theorem get_rd {f : Bool → Int} {w : Bool → List UInt8} : (lookK (.i (sid u)) (dk (fun v => .d (.bytes (oc (w v) 0 (f v)))) o)).getD (.d (.bytes [])) = .d (.bytes (oc (w u) 0 (bif o.has u then f u else 0))) :=
  b2 (o.has u) (fun h => by rw [look_dk h, h]; rfl) fun h => by rw [look_no h, h]; exact congrArg (fun b => V.d (.bytes b)) (oc_nil (Int.le_refl 0)).symm
theorem vof {x y : V} {A : D → Prop} {B : Nat → Prop} (h : x = y) (k : @V.rec (fun _ => Prop) A B y) : @V.rec (fun _ => Prop) A B x := by rw [h]; exact k
theorem brT {x : Bool} {A B : Prop} (h : x = false) (k : A) : @Bool.rec (fun _ => Prop) A B x := by rw [h]; exact k
end
noncomputable def ovU (W : Wd) (u : Bool) : Bool := bif W.vk.has u then W.ovr u else false
noncomputable def rdU (W : Wd) (u : Bool) : Int := bif W.rk.has u then W.rd u else 0
noncomputable def iffB (x : Option S) : List S := x.casesOn [] fun x => S.casesOn x [] (fun _ _ => []) (fun _ _ => []) (fun _ _ => []) (fun _ _ _ => []) (fun _ _ => []) (fun _ _ => []) (fun _ => []) (fun _ a _ => a) (fun _ _ _ _ _ => []) (fun _ _ => []) (fun _ => []) [] (fun _ => []) (fun _ => []) (fun _ _ => []) (fun _ _ => []) (fun _ _ _ => []) [] (fun _ => []) fun _ _ _ _ _ _ _ => []
noncomputable def rdX (W : Wd) (u : Bool) (z : Int) : Wd := { W with rk := W.rk.add u, rd := bup W.rd u z }
noncomputable def ovX (W : Wd) (u b : Bool) : Wd := { W with vk := W.vk.add u, ovr := bup W.ovr u b }
noncomputable def rdsW (W : Wd) (u : Bool) (p' : Rcv) : Wd := ovX (rdX (redW W u p' (p'.rt - (W.win u).usd)) u p'.rt) u (isRed p'.st)
section
variable {n : Nat} {W : Wd} {u : Bool} {Q : V → Store → Prop} {m : Int}
theorem isr {p : Rcv} {w : List UInt8} (I : RA w p) (h : isRed p.st = true) : p.rt = w.length := I.red (rc4 p.st (fun e => nomatch (e ▸ h : isRed .rcg = true)) (fun e => nomatch (e ▸ h : isRed .siz = true)) (fun e => nomatch (e ▸ h : isRed .dat = true)) id)
theorem put_rd {z : Int} : (stOf W).set (cb W.ord + 40) (.dict (putK (.i (sid u)) (.d (.bytes (oc (W.wr u) 0 z))) (dk (fun v => .d (.bytes (oc (W.wr v) 0 (W.rd v)))) W.rk))) = stOf (rdX W u z) := by
  rw [put_bup (g := fun v z => .d (.bytes (oc (W.wr v) 0 z)))]; exact set_rd _ _
theorem put_ov {b : Bool} : (stOf W).set (cb W.ord + 41) (.dict (putK (.i (sid u)) (.d (.bool b)) (dk (fun v => .d (.bool (W.ovr v))) W.vk))) = stOf (ovX W u b) := by
  rw [put_bup (g := fun _ b => .d (.bool b))]; exact set_ov _ _
theorem hd_eq {w : List UInt8} {z : Int} (h0 : 0 ≤ z) (h1 : z ≤ w.length) : w.take (((oc w 0 z).length : Int)).toNat = oc w 0 z := by rw [oc_len (Int.le_refl 0) h0 h1, Int.sub_zero]; rfl
theorem rds_mid {x3 : Option V} {K' : K} {z : Int} {b : Bool} (hu : W.ord.has u = true) (hw : (W.wr u).length ≤ 60) (h0 : 0 ≤ z) (h1 : z ≤ (W.wr u).length) (hr : W.rk.has u = true) (hz : W.rd u = z) (hb : b = true → z = (W.wr u).length) (k : ∀ x2 x3 x4, K' [some (.loc (cb W.ord + 39)), some (.d (.int m)), x2, x3, x4] none (stL W)) :
    wB (callF n) ((iffB (forB f__law_reads.body[0]?)[0]?).drop 3) [some (.loc (cb W.ord + 39)), some (.d (.int m)), some (.d (.int (sid u))), x3, some (.d (.bool b))] none (stL W) K' Q := by
  subst hz
  have lr : (oc (W.wr u) 0 (W.rd u)).length ≤ lim := lm100 (Nat.le_trans oc_le (Nat.le_trans hw (by decide)))
  refine ons L_w (ons (look_dk hu) (ons L_w (ons L_rd (ons (look_dk hr) ⟨lr, Int.natCast_nonneg _, lm100 (Nat.le_trans hw (by decide)), ons L_w (ons L_rd (ons (look_dk hr) (brn_t (hd_eq h0 h1) (brB (fun e => ons L_w (ons L_rd (ons (look_dk hr) (ons L_w (ons (look_dk hu) (brn_t (by rw [hb e]; exact oc_all) (k _ _ _))))))) fun _ => k _ _ _))))⟩))))
theorem rds_put {K' : K} {z r : Int} {b : Bool} (hu : W.ord.has u = true) (hw : (W.wr u).length ≤ 60) (h0 : 0 ≤ r) (h : r ≤ z) (h1 : z ≤ (W.wr u).length) (hr : rdU W u = r) (hb : b = true → z = (W.wr u).length) (k : ∀ x2 x3 x4, K' [some (.loc (cb W.ord + 39)), some (.d (.int m)), x2, x3, x4] none (stL (ovX (rdX W u z) u b))) :
    wB (callF n) ((iffB (forB f__law_reads.body[0]?)[0]?).drop 1) [some (.loc (cb W.ord + 39)), some (.d (.int m)), some (.d (.int (sid u))), some (.d (.bytes (oc (W.wr u) r z))), some (.d (.bool b))] none (stL W) K' Q := by
  have ol : ∀ {x y}, (oc (W.wr u) x y).length ≤ 100 := Nat.le_trans oc_le (Nat.le_trans hw (by decide))
  have e : oc (W.wr u) 0 (bif W.rk.has u then W.rd u else 0) ++ oc (W.wr u) r z = oc (W.wr u) 0 z := by rw [show (bif W.rk.has u then W.rd u else 0) = r from hr]; exact oc_append (Int.le_refl 0) h0 h
  refine ons L_w (ons L_rd (ons L_rd (vof get_rd ⟨Nat.le_trans (Nat.add_le_add ol ol) (by decide), ons L_w (ons L_rd ⟨Nat.le_trans dk_len (by decide), sL (cb38 (by decide)) ?_⟩)⟩)))
  rw [e, put_rd]
  refine ons (L_w (W := rdX W u z)) (ons (L_ov (W := rdX W u z)) ⟨Nat.le_trans dk_len (by decide), sL (cb38 (by decide)) ?_⟩)
  rw [show (stOf (rdX W u z)).set (cb (rdX W u z).ord + 41) _ = _ from put_ov]
  exact rds_mid (W := ovX (rdX W u z) u b) hu hw (let' h0 h) h1 has_add bup_self hb k
theorem rds_step {x3 x4 : Option V} {K' : K} (hu : W.ord.has u = true) (I : RA (W.wr u) (W.rcv u)) (hw : (W.wr u).length ≤ 60) (hm : 0 ≤ m) (h : (W.win u).usd ≤ (W.rcv u).rt) (hr : rdU W u = (W.rcv u).rt)
    (k0 : W.kno.has u = false ∨ ovU W u = true → ∀ x2 x3 x4, K' [some (.loc (cb W.ord + 39)), some (.d (.int m)), x2, x3, x4] none (stL W))
    (k1 : W.kno.has u = true → ovU W u = false → ∀ p', RA (W.wr u) p' → RdR (W.wr u) (W.rcv u) m p' → ∀ x2 x3 x4, K' [some (.loc (cb W.ord + 39)), some (.d (.int m)), x2, x3, x4] none (stL (rdsW W u p'))) :
    ∀ x2, forF (wB (callF (n + 3)) (forB f__law_reads.body[0]?)) [2] false Q (.int (sid u)) [some (.loc (cb W.ord + 39)), some (.d (.int m)), x2, x3, x4] none (stL W) K' :=
  fun x2 => ons L_w ⟨i1, b2 (W.kno.has u) (fun hk => brY (in_yes hk) (ons L_w (ons L_ov (ons L_ov (vof get_ov (brE (fun ho => k0 (.inr ho) _ _ _) fun ho => ons L_w ⟨i1, read_from hk I hw hm h fun p' J R => ⟨rfl,
    rds_put (W := redW W u p' (p'.rt - (W.win u).usd)) hu hw I.r0 R.le J.rN hr (isr J) (k1 hk ho p' J R)⟩⟩)))))) fun hk => brT (by rw [look_no hk]; rfl) (k0 (.inl hk) _ _ _)⟩
theorem wri_keys : (wriL W.ord W.wr).map (·.1.d) = (ol W.ord).map fun u => D.int (sid u) := by unfold wriL; cases W.ord <;> rfl
theorem stL_un : (stL W).set 37 (.dict (wriL W.ord W.wr)) = stOf W := by rw [stL, List.set_set]; rfl
structure RdOK (W : Wd) (u : Bool) : Prop where
  hu : W.ord.has u = true
  ra : RA (W.wr u) (W.rcv u)
  hw : (W.wr u).length ≤ 60
  us : (W.win u).usd ≤ (W.rcv u).rt
  hr : rdU W u = (W.rcv u).rt
theorem reads (I : List Bool → Wd → Prop) (h0 : I (ol W.ord) W) (hm : 0 ≤ m) (hok : ∀ u l W, I (u :: l) W → RdOK W u)
    (hsk : ∀ u l W, I (u :: l) W → W.kno.has u = false ∨ ovU W u = true → I l W) (hst : ∀ u l W, I (u :: l) W → W.kno.has u = true → ovU W u = false → ∀ p', RA (W.wr u) p' → RdR (W.wr u) (W.rcv u) m p' → I l (rdsW W u p'))
    (k : ∀ W', I [] W' → W'.ord = W.ord → Q (.d (.bool true)) (stOf W')) : Call (callF (n + 4)) .x_law .x__law_reads [.loc (cb W.ord + 39), .d (.int m)] (stOf W) Q := by
  refine ⟨ons look_w ?_⟩
  show For _ ((wriL W.ord W.wr).map (·.1.d)) _ none (stL W) _
  have e : (ol W.ord).map (fun u => D.int (sid u)) = (wriL W.ord W.wr).map (·.1.d) := wri_keys.symm
  rw [← e]
  exact for_st (A := Wd) (J := Option V × Option V × Option V) (g := fun u => D.int (sid u)) (fun W' j => [some (.loc (cb W'.ord + 39)), some (.d (.int m)), j.1, j.2.1, j.2.2]) (fun _ => none) stL (fun l W' => I l W' ∧ W'.ord = W.ord ∧ W'.wr = W.wr)
    (fun W' j h => by
      show Q _ ((stL W').set 37 (.dict (wriL W.ord W.wr)))
      rw [← h.2.1, ← h.2.2, stL_un]; exact k W' h.1 h.2.1)
    (fun u l K' hK W' j h => have o := hok u l W' h.1
      rds_step o.hu o.ra o.hw hm o.us o.hr (fun q x2 x3 x4 => hK W' (x2, x3, x4) ⟨hsk u l W' h.1 q, h.2⟩) (fun a b p' c d x2 x3 x4 => hK (rdsW W' u p') (x2, x3, x4) ⟨hst u l W' h.1 a b p' c d, h.2⟩) _)
    (j := (none, none, none)) ⟨h0, rfl, rfl⟩
end
end
section
def InF (F : Fly) (u : Bool) (z : Int) : Prop := ∃ lo hi e, (false, Fr.st u lo hi e, true) ∈ F ∧ lo ≤ z ∧ z < hi
def EndF (F : Fly) (u : Bool) : Prop := ∃ lo hi, (false, Fr.st u lo hi true, true) ∈ F
structure SI (F : Fly) (u : Bool) (w : List UInt8) (p : SndP) : Prop where
  sa : SA w p
  cv : ∀ x, 0 ≤ x → x < p.to → Mem x p.ack ∨ Mem x p.los ∨ InF F u x
  en : p.ea = true ∨ p.oe = true ∨ EndF F u
structure RI (F : Fly) (u : Bool) (w : List UInt8) (p : SndP) (q : Rcv) (x : Win) (l : Int) (kn : Bool) (i : Int) : Prop where
  ra : RA w q
  hT : q.hi ≤ p.to
  rl : l = x.lm
  lS : p.lm ≤ x.lm
  got : x.got = q.hi
  usd : x.usd = q.rt
  s1 : 1 ≤ x.sz
  s2 : x.sz ≤ 11
  s3 : x.lm ≤ 24
  ak : ∀ z, Mem z p.ack → z < q.rt ∨ Mem z q.pcs
  ea : p.ea = true → q.st ≠ .rcg
  ow : p.lm < x.lm → q.st = .rcg → x.ow = true ∨ (true, Fr.msd u x.lm, true) ∈ F
  un : kn = false → q = rcv0 ∧ x = win0 i
structure FS (h : Bool) (w : List UInt8) (p : SndP) (lo hi : Int) (e : Bool) : Prop where
  has : h = true
  lo0 : 0 ≤ lo
  lh : lo ≤ hi
  to : hi ≤ p.to
  en : e = true → hi = w.length
  st : p.st ≠ .rdy
def FOK (W : Wd) (v : Bool) (f : Fr) : Prop := f.casesOn (fun u lo hi e => v = false ∧ FS (W.ord.has u) (W.wr u) (W.snd u) lo hi e) (fun l => v = true ∧ l ≤ W.wi.lm) (fun u l => v = true ∧ W.kno.has u = true ∧ l ≤ (W.win u).lm) (fun u _ => v = false ∧ W.ord.has u = true) fun _ => v = false
structure WI (W : Wd) : Prop where
  s : ∀ u, SI W.fly u (W.wr u) (W.snd u)
  r : ∀ u, RI W.fly u (W.wr u) (W.snd u) (W.rcv u) (W.win u) (W.rlm u) (W.kno.has u) (owW W.p1 u)
  f : ∀ x ∈ W.fly, FOK W x.1 x.2.1
  ls : ∀ u, W.lims u = (W.snd u).lm
  ko : ∀ u, W.kno.has u = true → W.ord.has u = true
  od : ∀ u, W.ord.has u = false → (W.snd u).to = 0
  cu : W.cu = (W.snd false).to + (W.snd true).to
  cc : W.cu ≤ W.cl
  cw : W.cl ≤ W.wi.lm
  la : W.lall = W.cl
  wg : W.wi.got = (W.rcv false).hi + (W.rcv true).hi
  wu : W.wi.usd = (W.rcv false).rt + (W.rcv true).rt
  z1 : 1 ≤ W.wi.sz
  z2 : W.wi.sz ≤ 16
  z3 : W.wi.lm ≤ 42
  wo : W.cl < W.wi.lm → W.wi.ow = true ∨ (true, Fr.md W.wi.lm, true) ∈ W.fly
  se : ∀ u, sg W u = (W.snd u).to
  rd : ∀ u, rdU W u = (W.rcv u).rt
  ov : ∀ u, ovU W u = isRed (W.rcv u).st
  p1 : 1 ≤ W.p0.md
  p2 : W.p0.md < 1000
  p3 : 0 ≤ W.p0.bl
  p4 : W.p0.bl < 1000
  a0 : 0 ≤ W.pa
  a1 : W.pa < 2147483647
  i0 : 0 ≤ W.pi
  sc : W.sc.length ≤ 1000
def gS (f : Fr) (b : Bool) (u : Bool) (lo hi : Int) (e : Bool) : Prop := b = true ∧ f.casesOn (fun u' lo' hi' e' => u = u' ∧ lo = lo' ∧ hi = hi' ∧ e = e') (fun _ => False) (fun _ _ => False) (fun _ _ => False) fun _ => False
def gM (f : Fr) (b : Bool) (l : Int) : Prop := b = true ∧ f.casesOn (fun _ _ _ _ => False) (fun l' => l = l') (fun _ _ => False) (fun _ _ => False) fun _ => False
def gD (f : Fr) (b : Bool) (u : Bool) (l : Int) : Prop := b = true ∧ f.casesOn (fun _ _ _ _ => False) (fun _ => False) (fun u' l' => u = u' ∧ l = l') (fun _ _ => False) fun _ => False
structure KpF (F F' : Fly) (f : Fr) (b : Bool) : Prop where
  s : ∀ u lo hi e, (false, Fr.st u lo hi e, true) ∈ F → (false, Fr.st u lo hi e, true) ∈ F' ∨ gS f b u lo hi e
  m : ∀ l, (true, Fr.md l, true) ∈ F → (true, Fr.md l, true) ∈ F' ∨ gM f b l
  d : ∀ u l, (true, Fr.msd u l, true) ∈ F → (true, Fr.msd u l, true) ∈ F' ∨ gD f b u l
section
variable {F F' : Fly} {f : Fr} {v b kept u : Bool} {i : Nat} {y : Bool × Fr × Bool}
theorem drop_mem (he : F[i]? = some (v, f, b)) (m : y ∈ F) : y ∈ F.take i ++ F.drop (i + 1) ∨ y = (v, f, b) := by
  rw [← List.take_append_drop i F] at m
  refine (List.mem_append.mp m).elim (fun m => .inl (List.mem_append_left _ m)) fun m => ?_
  rw [List.drop_eq_getElem?_toList_append, he] at m
  exact (List.mem_append.mp m).elim (fun m => .inr (List.mem_singleton.mp m)) fun m => .inl (List.mem_append_right _ m)
theorem drop_sub (m : y ∈ F.take i ++ F.drop (i + 1)) : y ∈ F := (List.mem_append.mp m).elim List.mem_of_mem_take List.mem_of_mem_drop
theorem arr_sub (m : y ∈ arrF F i v f kept) : y ∈ F ∨ y = (v, f, false) := (List.mem_append.mp m).imp drop_sub fun m => by
  cases kept
  · cases m
  · exact List.mem_singleton.mp m
theorem KpF.of (h : ∀ y ∈ F, y ∈ F' ∨ y = (v, f, b)) : KpF F F' f b :=
  ⟨fun u lo hi e m => (h _ m).imp id fun q => Eq.subst (motive := fun y => gS y.2.1 y.2.2 u lo hi e) q (show gS (Fr.st u lo hi e) true u lo hi e from ⟨rfl, rfl, rfl, rfl, rfl⟩), fun l m => (h _ m).imp id fun q => Eq.subst (motive := fun y => gM y.2.1 y.2.2 l) q (show gM (Fr.md l) true l from ⟨rfl, rfl⟩), fun u l m => (h _ m).imp id fun q => Eq.subst (motive := fun y => gD y.2.1 y.2.2 u l) q (show gD (Fr.msd u l) true u l from ⟨rfl, rfl, rfl⟩)⟩
theorem kp_arr (he : F[i]? = some (v, f, b)) : KpF F (arrF F i v f kept) f b := .of fun _ m => (drop_mem he m).imp (List.mem_append_left _) id
theorem kp_drop (he : F[i]? = some (v, f, b)) : KpF F (dropF F i) f b := .of fun _ m => drop_mem he m
end
end
section
section
variable {F F' : Fly} {u b : Bool} {w : List UInt8} {p p' : SndP} {q q' : Rcv} {x : Win} {l i lo hi mn m : Int} {kn e : Bool}
theorem InF.mono {z : Int} (k : ∀ lo hi e, (false, Fr.st u lo hi e, true) ∈ F → (false, Fr.st u lo hi e, true) ∈ F') (h : InF F u z) : InF F' u z := h.imp fun _ h => h.imp fun _ h => h.imp fun _ h => ⟨k _ _ _ h.1, h.2⟩
theorem EndF.mono (k : ∀ lo hi e, (false, Fr.st u lo hi e, true) ∈ F → (false, Fr.st u lo hi e, true) ∈ F') (h : EndF F u) : EndF F' u := h.imp fun _ h => h.imp fun _ h => k _ _ _ h
theorem SI.mono (k : ∀ lo hi e, (false, Fr.st u lo hi e, true) ∈ F → (false, Fr.st u lo hi e, true) ∈ F') (h : SI F u w p) : SI F' u w p :=
  ⟨h.sa, fun z a b => (h.cv z a b).imp id (Or.imp id (InF.mono k)), h.en.imp id (Or.imp id (EndF.mono k))⟩
theorem SI.ack (h : SI F u w p) (J : SA w p') (A : AckR p lo hi e p') (k : ∀ lo' hi' e', (false, Fr.st u lo' hi' e', true) ∈ F → (false, Fr.st u lo' hi' e', true) ∈ F' ∨ lo' = lo ∧ hi' = hi ∧ e' = e) : SI F' u w p' :=
  ⟨J, fun z a d => if c : lo ≤ z ∧ z < hi then .inl ((A.ack z).mpr (.inr c)) else (h.cv z a (A.to ▸ d)).elim (fun m => .inl ((A.ack z).mpr (.inl m))) fun m => .inr (m.imp (fun m => (A.los z).mpr ⟨m, c⟩) fun ⟨lo', hi', e', m, m1, m2⟩ => (k lo' hi' e' m).elim (fun m => ⟨lo', hi', e', m, m1, m2⟩) fun r => absurd ⟨r.1 ▸ m1, r.2.1 ▸ m2⟩ c), by
    rw [A.ea, A.oe]
    cases e
    · exact h.en.imp id (Or.imp id fun ⟨lo', hi', m⟩ => (k lo' hi' true m).elim (fun m => ⟨lo', hi', m⟩) fun r => nomatch r.2.2)
    · exact .inl rfl⟩
theorem SI.lost (h : SI F u w p) (J : SA w p') (A : LosR p lo hi e p') (k : ∀ lo' hi' e', (false, Fr.st u lo' hi' e', true) ∈ F → (false, Fr.st u lo' hi' e', true) ∈ F' ∨ lo' = lo ∧ hi' = hi ∧ e' = e) : SI F' u w p' :=
  ⟨J, fun z a d => (h.cv z a (A.to ▸ d)).elim (fun m => .inl (A.ack.symm ▸ m)) fun m => m.elim (fun m => .inr (.inl ((A.los z).mpr (.inl m)))) fun ⟨lo', hi', e', m, m1, m2⟩ => (k lo' hi' e' m).elim (fun m => .inr (.inr ⟨lo', hi', e', m, m1, m2⟩)) fun r =>
      (Classical.em (Mem z p.ack)).elim (fun c => .inl (A.ack.symm ▸ c)) fun c => .inr (.inl ((A.los z).mpr (.inr ⟨⟨r.1 ▸ m1, r.2.1 ▸ m2⟩, c⟩))), by
    rw [A.ea, A.oe]
    exact h.en.elim .inl fun m => b2 p.ea .inl fun f => .inr (m.elim (fun m => .inl (by rw [m]; exact Bool.or_true _)) fun ⟨lo', hi', m⟩ => (k lo' hi' true m).elim (fun m => .inr ⟨lo', hi', m⟩) fun r => .inl (by rw [← r.2.2, f]; rfl))⟩
theorem SI.chunk (h : SI F u w p) (J : SA w p') (R : ChR w p mn lo hi e p') (k : ∀ lo hi e, (false, Fr.st u lo hi e, true) ∈ F → (false, Fr.st u lo hi e, true) ∈ F') (hN : (false, Fr.st u lo hi e, true) ∈ F') : SI F' u w p' :=
  ⟨J, fun z a d => if c : lo ≤ z ∧ z < hi then .inr (.inr ⟨lo, hi, e, hN, c⟩) else if c2 : z < p.to then (h.cv z a c2).imp (fun m => R.ack.symm ▸ m) (Or.imp (fun m => (R.los z).mpr ⟨m, c⟩) (InF.mono k))
      else have t := ltmx (R.to ▸ d) (nl c2); absurd ⟨let' (Int.le_of_eq (R.f.nw (lelt (nl c2) t))) (nl c2), t⟩ c, by
    rw [R.ea, R.oe]
    cases e
    · exact h.en.imp id (Or.imp id (EndF.mono k))
    · exact .inr (.inr ⟨lo, hi, hN⟩)⟩
theorem RI.mono (h : RI F u w p q x l kn i) (h1 : p.to ≤ p'.to) (h2 : p'.lm = p.lm) (h3 : p'.ack = p.ack) (h4 : p'.ea = p.ea) (k : ∀ z, (true, Fr.msd u z, true) ∈ F → (true, Fr.msd u z, true) ∈ F') : RI F' u w p' q x l kn i :=
  ⟨h.ra, let' h.hT h1, h.rl, h2 ▸ h.lS, h.got, h.usd, h.s1, h.s2, h.s3, h3 ▸ h.ak, h4 ▸ h.ea, fun a d => (h.ow (h2 ▸ a) d).imp id (k _), h.un⟩
theorem RI.known {kn' : Bool} (h : RI F u w p q x l kn i) (k : kn' = false → kn = false) : RI F u w p q x l kn' i := ⟨h.ra, h.hT, h.rl, h.lS, h.got, h.usd, h.s1, h.s2, h.s3, h.ak, h.ea, h.ow, fun c => h.un (k c)⟩
theorem RI.read (h : RI F u w p q x l kn i) (J : RA w q') (R : RdR w q m q') (hk : kn = true) : RI F u w p q' (redX x (q'.rt - x.usd)) l kn i :=
  ⟨J, R.hi ▸ h.hT, h.rl, h.lS, R.hi ▸ h.got, asb, h.s1, h.s2, h.s3, fun z m => (h.ak z m).elim (fun c => .inl (ltle c R.le)) (R.old z), fun c d => h.ea c (R.rg.mp d), fun a d => h.ow a (R.rg.mp d), fun c => nomatch hk.symm.trans c⟩
structure AckF (p : SndP) (lo hi : Int) (e : Bool) (p' : SndP) : Prop where
  to : p'.to = p.to
  lm : p'.lm = p.lm
  ack : ∀ z, Mem z p'.ack → Mem z p.ack ∨ (lo ≤ z ∧ z < hi)
  old : ∀ z, Mem z p.ack → Mem z p'.ack
  ea : p'.ea = true → e = true ∨ p.ea = true
  eo : p.ea = true → p'.ea = true
  st : p'.st = .rdy → p.st = .rdy
theorem AckQ.f (h : AckQ b p lo hi e p') : AckF p lo hi e p' := h.elim (fun h => ⟨h.2.to, h.2.lm, fun z => (h.2.ack z).mp, fun z m => (h.2.ack z).mpr (.inl m), fun c => Bool.or_eq_true_iff.mp (h.2.ea ▸ c), fun c => h.2.ea ▸ Bool.or_eq_true_iff.mpr (.inr c), h.2.st⟩) fun h =>
  h.2 ▸ ⟨rfl, rfl, fun _ => .inl, fun _ => id, .inr, id, id⟩
theorem SI.ackq (h : SI F u w p) (J : SA w p') (A : AckQ b p lo hi e p') (k : ∀ lo' hi' e', (false, Fr.st u lo' hi' e', true) ∈ F → (false, Fr.st u lo' hi' e', true) ∈ F' ∨ b = true ∧ lo' = lo ∧ hi' = hi ∧ e' = e) : SI F' u w p' :=
  A.elim (fun A => h.ack J A.2 fun _ _ _ m => (k _ _ _ m).imp id And.right) fun A => A.2 ▸ h.mono fun _ _ _ m => (k _ _ _ m).elim id fun r => nomatch A.1.symm.trans r.1
theorem RI.come (h : RI F u w p q x l kn i) (J : RA w q') (G : GotR q lo hi e q') (A : AckF p lo hi e p') (ht : hi ≤ p.to) (hk : kn = true) (k : ∀ z, (true, Fr.msd u z, true) ∈ F → (true, Fr.msd u z, true) ∈ F') : RI F' u w p' q' (gotX x (max 0 (hi - q.hi))) l kn i :=
  ⟨J, let' (Int.le_of_eq G.hg) (mxle (A.to ▸ h.hT) (A.to ▸ ht)), h.rl, A.lm ▸ h.lS, by show x.got + _ = _; rw [h.got, adm, G.hg], h.usd.trans G.rt.symm, h.s1, h.s2, h.s3,
   fun z m => (A.ack z m).elim (fun m => (h.ak z m).imp (fun c => G.rt.symm ▸ c) (G.old z)) fun c => (G.new z c.1 c.2).imp (fun c => G.rt.symm ▸ c) id,
   fun c d => have r := G.rg.mp d; (A.ea c).elim (fun c => nomatch r.2.symm.trans c) fun c => h.ea c r.1, fun a d => (h.ow (A.lm ▸ a) (G.rg.mp d).1).imp id (k _), fun c => nomatch hk.symm.trans c⟩
theorem RI.lim (h : RI F u w p q x l kn i) (hw : (w.length : Int) ≤ 13) (T : WinT x mn) (hk : kn = true) (hN : (true, Fr.msd u mn, true) ∈ F') : RI F' u w p q (nxt x mn) (max l mn) kn i :=
  have le := T.le (let' (by decide) h.s1)
  ⟨h.ra, h.hT, Int.max_eq_right (h.rl ▸ le), let' h.lS le, h.got, h.usd, h.s1, h.s2, T.elim (fun T => T.2.1 ▸ h.s3) fun T => let' (Int.le_of_eq (T.2.trans (congrArg (· + x.sz) h.usd))) (Int.add_le_add (let' h.ra.rN hw) h.s2), h.ak, h.ea, fun _ _ => .inr hN, fun c => nomatch hk.symm.trans c⟩
end
end
section
section
variable {α β γ : Type} {f : Bool → α} {u : Bool} {x : α}
theorem bup_all3 {g : Bool → β} {y : β} {h : Bool → γ} {z : γ} {P : Bool → α → β → γ → Prop} (h1 : P u x y z) (h2 : ∀ v, v ≠ u → P v (f v) (g v) (h v)) (v : Bool) : P v (bup f u x v) (bup g u y v) (bup h u z v) := by cases u <;> cases v <;> first | exact h1 | exact h2 _ nofun
theorem sumb (g : α → Int) {d : Int} (h : g x = g (f u) + d) : g (f false) + g (f true) + d = g (bup f u x false) + g (bup f u x true) := by
  cases u
  · exact (Int.add_right_comm _ _ _).trans (congrArg (· + _) h.symm)
  · exact (Int.add_assoc _ _ _).trans (congrArg (_ + ·) h.symm)
theorem sume (g : α → Int) (h : g x = g (f u)) : g (f false) + g (f true) = g (bup f u x false) + g (bup f u x true) := (Int.add_zero _).symm.trans (sumb g (h.trans (Int.add_zero _).symm))
end
theorem has_un {o : Od} {u v : Bool} (c : (o.add u).has v = false) : o.has v = false := b2 (o.has v) (fun h => nomatch c.symm.trans (has_add' h)) id
section
variable {W W' : Wd} {v u b kept : Bool} {f : Fr} {i : Nat} {F' : Fly} {lo hi l : Int} {e : Bool} {p' : Rcv} {p'' : SndP}
theorem FOK.mono (h : FOK W v f) (c0 : W'.ord = W.ord) (c7 : W'.wr = W.wr) (c2 : ∀ u, (W.snd u).to ≤ (W'.snd u).to) (c3 : ∀ u, (W'.snd u).st = .rdy → (W.snd u).st = .rdy) (c4 : W.wi.lm ≤ W'.wi.lm) (c5 : ∀ u, W.kno.has u = true → W'.kno.has u = true) (c6 : ∀ u, (W.win u).lm ≤ (W'.win u).lm) : FOK W' v f := by
  cases f
  · exact ⟨h.1, c0 ▸ h.2.has, h.2.lo0, h.2.lh, let' h.2.to (c2 _), c7 ▸ h.2.en, fun q => h.2.st (c3 _ q)⟩
  · exact ⟨h.1, let' h.2 c4⟩
  · exact ⟨h.1, c5 _ h.2.1, let' h.2.2 (c6 _)⟩
  · exact ⟨h.1, c0 ▸ h.2⟩
  · exact h
theorem arr_f (I : WI W) (he : W.fly[i]? = some (v, f, b)) (k : ∀ v f, FOK W v f → FOK W' v f) : ∀ y ∈ arrF W.fly i v f kept, FOK W' y.1 y.2.1 := fun y m => (arr_sub m).elim (fun m => k _ _ (I.f y m)) fun q => by rw [q]; exact k v f (I.f _ (List.mem_of_getElem? he))
theorem WI.flyO (I : WI W) (h1 : ∀ u lo hi e, (false, Fr.st u lo hi e, true) ∈ W.fly → (false, Fr.st u lo hi e, true) ∈ F') (h2 : ∀ l, (true, Fr.md l, true) ∈ W.fly → (true, Fr.md l, true) ∈ F') (h3 : ∀ u l, (true, Fr.msd u l, true) ∈ W.fly → (true, Fr.msd u l, true) ∈ F') (h4 : ∀ y ∈ F', FOK W y.1 y.2.1) : WI (flyW W F') :=
  ⟨fun u => (I.s u).mono (h1 u), fun u => (I.r u).mono (Int.le_refl _) rfl rfl rfl (h3 u), h4, I.ls, I.ko, I.od, I.cu, I.cc, I.cw, I.la, I.wg, I.wu, I.z1, I.z2, I.z3, fun c => (I.wo c).imp id (h2 _), I.se, I.rd, I.ov, I.p1, I.p2, I.p3, I.p4, I.a0, I.a1, I.i0, I.sc⟩
theorem WI.op (I : WI W) (hu : W.ord.has u = true) : WI (opW W u) :=
  ⟨I.s, fun v => (I.r v).known has_un, fun y m => (I.f y m).mono rfl rfl (fun _ => Int.le_refl _) (fun _ => id) (Int.le_refl _) (fun _ => has_add') fun _ => Int.le_refl _, I.ls, fun v h => if c : v = u then c ▸ hu else I.ko v (has_ne c ▸ h),
   I.od, I.cu, I.cc, I.cw, I.la, I.wg, I.wu, I.z1, I.z2, I.z3, I.wo, I.se, I.rd, I.ov, I.p1, I.p2, I.p3, I.p4, I.a0, I.a1, I.i0, I.sc⟩
theorem WI.draw (I : WI W) {a j : Int} (h0 : 0 ≤ a) (h1 : a < 2147483647) (h2 : 0 ≤ j) : WI { W with pa := a, pi := j } :=
  ⟨I.s, I.r, I.f, I.ls, I.ko, I.od, I.cu, I.cc, I.cw, I.la, I.wg, I.wu, I.z1, I.z2, I.z3, I.wo, I.se, I.rd, I.ov, I.p1, I.p2, I.p3, I.p4, h0, h1, h2, I.sc⟩
theorem WI.tell (I : WI W) (o : Od) (g : Bool → Int) (c : Option Int) (n : Nat) : WI { W with bk := o, bz := g, ct := c, log := n } :=
  ⟨I.s, I.r, I.f, I.ls, I.ko, I.od, I.cu, I.cc, I.cw, I.la, I.wg, I.wu, I.z1, I.z2, I.z3, I.wo, I.se, I.rd, I.ov, I.p1, I.p2, I.p3, I.p4, I.a0, I.a1, I.i0, I.sc⟩
theorem WI.st (I : WI W) (hk : W.kno.has u = true) (he : W.fly[i]? = some (false, .st u lo hi e, b)) (J : RA (W.wr u) p') (G : GotR (W.rcv u) lo hi e p') (K : SA (W.wr u) p'') (A : AckQ b (W.snd u) lo hi e p'') :
    WI (flyW (sndU (gotW W u p' (max 0 (hi - (W.rcv u).hi))) u p'') (arrF W.fly i false (.st u lo hi e) kept)) :=
  have kp := kp_arr (kept := kept) he
  have S := (I.f _ (List.mem_of_getElem? he)).2
  have B := A.f
  ⟨bup_all (P := fun v y => SI (arrF W.fly i false (.st u lo hi e) kept) v (W.wr v) y) ((I.s u).ackq K A fun _ _ _ m => (kp.s u _ _ _ m).imp id fun g => ⟨g.1, g.2.2⟩) fun v n => (I.s v).mono fun _ _ _ m => (kp.s v _ _ _ m).elim id fun g => absurd g.2.1 n,
   bup_all3 (P := fun v y z t => RI (arrF W.fly i false (.st u lo hi e) kept) v (W.wr v) y z t (W.rlm v) (W.kno.has v) (owW W.p1 v)) ((I.r u).come J G B S.to hk fun _ m => (kp.d _ _ m).elim id fun g => g.2.elim) fun v _ => (I.r v).mono (Int.le_refl _) rfl rfl rfl fun _ m => (kp.d _ _ m).elim id fun g => g.2.elim,
   arr_f I he fun _ _ h => h.mono rfl rfl (bup_all (P := fun v (y : SndP) => (W.snd v).to ≤ y.to) (Int.le_of_eq B.to.symm) fun _ _ => Int.le_refl _) (bup_all (P := fun v (y : SndP) => y.st = .rdy → (W.snd v).st = .rdy) B.st fun _ _ => id) (Int.le_refl _) (fun _ => id) (bup_all (P := fun v (y : Win) => (W.win v).lm ≤ y.lm) (Int.le_refl _) fun _ _ => Int.le_refl _),
   bup_all (P := fun v (y : SndP) => W.lims v = y.lm) ((I.ls u).trans B.lm.symm) fun v _ => I.ls v, I.ko, bup_all (P := fun v (y : SndP) => W.ord.has v = false → y.to = 0) (fun c => B.to.trans (I.od u c)) fun v _ => I.od v, I.cu.trans (sume SndP.to B.to), I.cc, I.cw, I.la,
   (congrArg (· + _) I.wg).trans (sumb Rcv.hi (G.hg.trans adm.symm)), I.wu.trans (sume Rcv.rt G.rt), I.z1, I.z2, I.z3, fun c => (I.wo c).imp id fun m => (kp.m _ m).elim id fun g => g.2.elim, bup_all (P := fun v (y : SndP) => sg W v = y.to) ((I.se u).trans B.to.symm) fun v _ => I.se v,
   bup_all (P := fun v (y : Rcv) => rdU W v = y.rt) ((I.rd u).trans G.rt.symm) fun v _ => I.rd v, bup_all (P := fun v (y : Rcv) => ovU W v = isRed y.st) ((I.ov u).trans G.red.symm) fun v _ => I.ov v, I.p1, I.p2, I.p3, I.p4, I.a0, I.a1, I.i0, I.sc⟩
theorem WI.md (I : WI W) (he : W.fly[i]? = some (true, .md l, b)) : WI (flyW (mdW W l) (arrF W.fly i true (.md l) kept)) :=
  have kp := kp_arr (kept := kept) he
  have S := (I.f _ (List.mem_of_getElem? he)).2
  ⟨fun u => (I.s u).mono fun _ _ _ m => (kp.s _ _ _ _ m).elim id fun g => g.2.elim, fun u => (I.r u).mono (Int.le_refl _) rfl rfl rfl fun _ m => (kp.d _ _ m).elim id fun g => g.2.elim, arr_f I he fun _ _ h => h, I.ls, I.ko, I.od, I.cu, let' I.cc mxl, mxle I.cw S, congrArg (max · l) I.la, I.wg, I.wu, I.z1, I.z2, I.z3,
   fun c => (I.wo (lelt mxl c)).imp id fun m => (kp.m _ m).elim id fun g => absurd c (ln (let' (Int.le_of_eq g.2) mxr)), I.se, I.rd, I.ov, I.p1, I.p2, I.p3, I.p4, I.a0, I.a1, I.i0, I.sc⟩
theorem WI.msd (I : WI W) (he : W.fly[i]? = some (true, .msd u l, b)) : WI (flyW (msdW W u l) (arrF W.fly i true (.msd u l) kept)) :=
  have kp := kp_arr (kept := kept) he
  have S := (I.f _ (List.mem_of_getElem? he)).2
  have r := I.r u
  have s := (I.s u).sa
  have k1 := fun v lo hi e m => (kp.s v lo hi e m).elim id fun g => g.2.elim
  ⟨bup_all (P := fun v y => SI (arrF W.fly i true (.msd u l) kept) v (W.wr v) y) (have t := (I.s u).mono (k1 u); ⟨⟨s.n, s.t0, s.tN, let' s.tL mxl, s.ca, s.cl, s.dj, s.oe, s.op, s.rc, let' s.l1 mxl⟩, t.cv, t.en⟩) fun v _ => (I.s v).mono (k1 v),
   bup_all (P := fun v y => RI (arrF W.fly i true (.msd u l) kept) v (W.wr v) y (W.rcv v) (W.win v) (W.rlm v) (W.kno.has v) (owW W.p1 v)) ⟨r.ra, r.hT, r.rl, mxle r.lS S.2, r.got, r.usd, r.s1, r.s2, r.s3, r.ak, r.ea, fun c d => (r.ow (lelt mxl c) d).imp id fun m => (kp.d _ _ m).elim id fun g => absurd c (ln (let' (Int.le_of_eq g.2.2) mxr)), r.un⟩
     fun v n => (I.r v).mono (Int.le_refl _) rfl rfl rfl fun _ m => (kp.d _ _ m).elim id fun g => absurd g.2.1 n,
   arr_f I he fun _ _ h => h.mono rfl rfl (bup_all (P := fun v (y : SndP) => (W.snd v).to ≤ y.to) (Int.le_refl _) fun _ _ => Int.le_refl _) (bup_all (P := fun v (y : SndP) => y.st = .rdy → (W.snd v).st = .rdy) id fun _ _ => id) (Int.le_refl _) (fun _ => id) fun _ => Int.le_refl _,
   bup_all2 (P := fun _ (z : Int) (y : SndP) => z = y.lm) (congrArg (max · l) (I.ls u)) fun v _ => I.ls v, I.ko, bup_all (P := fun v (y : SndP) => W.ord.has v = false → y.to = 0) (I.od u) fun v _ => I.od v, I.cu.trans (sume SndP.to rfl), I.cc, I.cw, I.la, I.wg, I.wu, I.z1, I.z2, I.z3, fun c => (I.wo c).imp id fun m => (kp.m _ m).elim id fun g => g.2.elim,
   bup_all (P := fun v (y : SndP) => sg W v = y.to) (I.se u) fun v _ => I.se v, I.rd, I.ov, I.p1, I.p2, I.p3, I.p4, I.a0, I.a1, I.i0, I.sc⟩
end
end
section
structure Step (W W' : Wd) : Prop where
  ord : W'.ord = W.ord
  wr : W'.wr = W.wr
  to : ∀ u, (W'.snd u).to = (W.snd u).to
  cu : W'.cu = W.cu
  ack : ∀ u z, Mem z (W.snd u).ack → Mem z (W'.snd u).ack
  ea : ∀ u, (W.snd u).ea = true → (W'.snd u).ea = true
  cl : W.cl ≤ W'.cl
  lm : ∀ u, (W.snd u).lm ≤ (W'.snd u).lm
  inf : ∀ u z, InF W.fly u z → Mem z (W'.snd u).ack ∨ InF W'.fly u z
  enf : ∀ u, EndF W.fly u → (W'.snd u).ea = true ∨ EndF W'.fly u
  md : ∀ l, (true, Fr.md l, true) ∈ W.fly → l ≤ W'.cl ∨ (true, Fr.md l, true) ∈ W'.fly
  msd : ∀ u l, (true, Fr.msd u l, true) ∈ W.fly → l ≤ (W'.snd u).lm ∨ (true, Fr.msd u l, true) ∈ W'.fly
theorem Step.refl (W : Wd) : Step W W := ⟨rfl, rfl, fun _ => rfl, rfl, fun _ _ => id, fun _ => id, Int.le_refl _, fun _ => Int.le_refl _, fun _ _ => .inr, fun _ => .inr, fun _ => .inr, fun _ _ => .inr⟩
theorem Step.trans {A B C : Wd} (h : Step A B) (k : Step B C) : Step A C :=
  ⟨k.ord.trans h.ord, k.wr.trans h.wr, fun u => (k.to u).trans (h.to u), k.cu.trans h.cu, fun u z m => k.ack u z (h.ack u z m), fun u m => k.ea u (h.ea u m), let' h.cl k.cl, fun u => let' (h.lm u) (k.lm u),
   fun u z m => (h.inf u z m).elim (fun m => .inl (k.ack u z m)) (k.inf u z), fun u m => (h.enf u m).elim (fun m => .inl (k.ea u m)) (k.enf u), fun l m => (h.md l m).elim (fun m => .inl (let' m k.cl)) (k.md l),
   fun u l m => (h.msd u l m).elim (fun m => .inl (let' m (k.lm u))) (k.msd u l)⟩
section
variable {n : Nat} {W W' : Wd} {u b kept : Bool} {f : Fr} {i : Nat} {lo hi l : Int} {e : Bool} {p' : Rcv} {p'' : SndP} {Q : V → Store → Prop}
theorem Step.of (c1 : W'.ord = W.ord) (c2 : W'.wr = W.wr) (c3 : W'.snd = W.snd) (c4 : W'.cu = W.cu) (c5 : W.cl ≤ W'.cl) (kp : KpF W.fly W'.fly f b) (n1 : ∀ u lo hi e, ¬ gS f b u lo hi e) (n2 : ∀ l, gM f b l → l ≤ W'.cl) (n3 : ∀ u l, ¬ gD f b u l) : Step W W' :=
  ⟨c1, c2, fun u => by rw [c3], c4, fun u z m => by rw [c3]; exact m, fun u m => by rw [c3]; exact m, c5, fun u => by rw [c3]; exact Int.le_refl _, fun u z m => .inr (m.mono fun _ _ _ m => (kp.s _ _ _ _ m).resolve_right (n1 _ _ _ _)), fun u m => .inr (m.mono fun _ _ _ m => (kp.s _ _ _ _ m).resolve_right (n1 _ _ _ _)),
   fun l m => (kp.m l m).symm.imp (n2 l) id, fun u l m => .inr ((kp.d u l m).resolve_right (n3 u l))⟩
theorem step_st (he : W.fly[i]? = some (false, .st u lo hi e, b)) (A : AckQ b (W.snd u) lo hi e p'') {m : Int} : Step W (flyW (sndU (gotW (opW W u) u p' m) u p'') (arrF W.fly i false (.st u lo hi e) kept)) :=
  have kp := kp_arr (kept := kept) he
  have B := A.f
  ⟨rfl, rfl, bup_all (P := fun v (y : SndP) => y.to = (W.snd v).to) B.to fun _ _ => rfl, rfl, bup_all (P := fun v (y : SndP) => ∀ z, Mem z (W.snd v).ack → Mem z y.ack) B.old fun _ _ _ => id, bup_all (P := fun v (y : SndP) => (W.snd v).ea = true → y.ea = true) B.eo fun _ _ => id, Int.le_refl _,
   bup_all (P := fun v (y : SndP) => (W.snd v).lm ≤ y.lm) (Int.le_of_eq B.lm.symm) fun _ _ => Int.le_refl _,
   bup_all (P := fun v (y : SndP) => ∀ z, InF W.fly v z → Mem z y.ack ∨ InF (arrF W.fly i false (.st u lo hi e) kept) v z) (fun z ⟨lo', hi', e', m, m1, m2⟩ => (kp.s u lo' hi' e' m).elim (fun m => .inr ⟨lo', hi', e', m, m1, m2⟩) fun g => A.elim (fun A => .inl ((A.2.ack z).mpr (.inr ⟨g.2.2.1 ▸ m1, g.2.2.2.1 ▸ m2⟩))) fun A => nomatch A.1.symm.trans g.1)
     fun v n z m => .inr (m.mono fun _ _ _ m => (kp.s v _ _ _ m).resolve_right fun g => n g.2.1),
   bup_all (P := fun v (y : SndP) => EndF W.fly v → y.ea = true ∨ EndF (arrF W.fly i false (.st u lo hi e) kept) v) (fun ⟨lo', hi', m⟩ => (kp.s u lo' hi' true m).elim (fun m => .inr ⟨lo', hi', m⟩) fun g => A.elim (fun A => .inl (A.2.ea.trans (by rw [← g.2.2.2.2]; rfl))) fun A => nomatch A.1.symm.trans g.1)
     fun v n m => .inr (m.mono fun _ _ _ m => (kp.s v _ _ _ m).resolve_right fun g => n g.2.1),
   fun l m => .inr ((kp.m l m).resolve_right fun g => g.2), fun v l m => .inr ((kp.d v l m).resolve_right fun g => g.2)⟩
theorem step_msd (he : W.fly[i]? = some (true, .msd u l, b)) : Step W (flyW (msdW W u l) (arrF W.fly i true (.msd u l) kept)) :=
  have kp := kp_arr (kept := kept) he
  ⟨rfl, rfl, bup_all (P := fun v (y : SndP) => y.to = (W.snd v).to) rfl fun _ _ => rfl, rfl, bup_all (P := fun v (y : SndP) => ∀ z, Mem z (W.snd v).ack → Mem z y.ack) (fun _ => id) fun _ _ _ => id, bup_all (P := fun v (y : SndP) => (W.snd v).ea = true → y.ea = true) id fun _ _ => id, Int.le_refl _,
   bup_all (P := fun v (y : SndP) => (W.snd v).lm ≤ y.lm) mxl fun _ _ => Int.le_refl _, fun v z m => .inr (m.mono fun _ _ _ m => (kp.s v _ _ _ m).resolve_right fun g => g.2), fun v m => .inr (m.mono fun _ _ _ m => (kp.s v _ _ _ m).resolve_right fun g => g.2), fun l m => .inr ((kp.m l m).resolve_right fun g => g.2),
   bup_all (P := fun v (y : SndP) => ∀ l', (true, Fr.msd v l', true) ∈ W.fly → l' ≤ y.lm ∨ (true, Fr.msd v l', true) ∈ arrF W.fly i true (.msd u l) kept) (fun l' m => (kp.d u l' m).symm.imp (fun g => let' (Int.le_of_eq g.2.2) mxr) id) fun v n l' m => .inr ((kp.d v l' m).resolve_right fun g => n g.2.1)⟩
theorem drop_len {F : Fly} {x : Bool × Fr × Bool} (h : F[i]? = some x) : (F.take i ++ F.drop (i + 1)).length + 1 = F.length := by
  have := (List.getElem?_eq_some_iff.mp h).1
  rw [List.length_append, List.length_take, List.length_drop]; omega
theorem arr_len {v : Bool} (h : W.fly[i]? = some (v, f, b)) : (arrF W.fly i v f kept).length + 1 = W.fly.length + (bif kept then 1 else 0) := by
  rw [arrF, List.length_append, Nat.add_right_comm, drop_len h]; cases kept <;> rfl
theorem WI.unk (I : WI W) : UnK W := fun u h => ⟨((I.r u).un h).1, ((I.r u).un h).2, (I.r u).rl.trans (congrArg Win.lm ((I.r u).un h).2)⟩
theorem WI.room (I : WI W) (h : hi ≤ (W.snd u).to) : hi ≤ W.rlm u ∧ (W.win u).got + max 0 (hi - (W.rcv u).hi) ≤ (W.win u).lm ∧ W.wi.got + max 0 (hi - (W.rcv u).hi) ≤ W.wi.lm := by
  have r := I.r u
  have t := let' h (let' (I.s u).sa.tL r.lS)
  have b := bup_all (f := fun v => (W.rcv v).hi) (x := max (W.rcv u).hi hi) (P := fun v (y : Int) => y ≤ (W.snd v).to) (mxle r.hT h) fun v _ => (I.r v).hT
  refine ⟨r.rl ▸ t, by rw [r.got, adm]; exact mxle (let' r.hT (let' (I.s u).sa.tL r.lS)) t, ?_⟩
  rw [I.wg]
  exact let' (Int.le_of_eq (sumb (f := fun v => (W.rcv v).hi) (u := u) (x := max (W.rcv u).hi hi) (fun y => y) adm.symm)) (let' (Int.add_le_add (b false) (b true)) (I.cu ▸ let' I.cc I.cw))
theorem l_arr (I : WI W) (hb : W.log + 2 * W.fly.length ≤ 100000) (hi : i < W.fly.length) (k : ∀ W', WI W' → Step W W' → W'.log ≤ W.log + 2 → W'.fly.length + 1 = W.fly.length + (bif kept then 1 else 0) → Q (.d .none) (stOf W')) :
    Call (callF (n + 7)) .x_law .x__law_arrives [.loc (cb W.ord + 39), .d (.int i), .d (.bool kept)] (stOf W) Q := by
  obtain ⟨⟨v, f, b⟩, he⟩ : ∃ x, W.fly[i]? = some x := ⟨_, List.getElem?_eq_getElem hi⟩
  have hF := I.f _ (List.mem_of_getElem? he)
  have h1 : W.fly.length ≤ 100000 := by omega
  have h2 : W.log + 1 < lim := Nat.lt_of_le_of_lt (by omega : W.log + 1 ≤ 100001) (by decide)
  have h3 := Nat.lt_of_succ_lt h2
  have hop : ∀ u, (opW W u).log ≤ W.log + 1 := fun u => by show (bif _ then _ else _) ≤ _; cases W.kno.has u; exact Nat.le_refl _; exact Nat.le_succ _
  have us : ∀ u, (W.rcv u).rt ≤ (W.win u).usd := fun u => Int.le_of_eq (I.r u).usd.symm
  cases f with
  | st u lo hi e =>
    obtain ⟨rfl, S⟩ := hF
    have R := I.room S.to
    exact arr_st he h1 I.unk (I.r u).ra S.lo0 S.lh S.en R.1 R.2.1 R.2.2 (us u) h3 (Nat.lt_of_le_of_lt (hop u) h2) S.has (I.s u).sa S.to fun p' p'' J G K A => k _ ((I.op S.has).st (i := i) (b := b) opW_hu he J G K A) (step_st he A) (Nat.succ_le_succ (hop u)) (arr_len he)
  | md l =>
    obtain ⟨rfl, S⟩ := hF
    exact arr_md he h1 (k _ (I.md he) (.of rfl rfl rfl rfl mxl (kp_arr he) (fun _ _ _ _ g => g.2) (fun l g => let' (Int.le_of_eq g.2) mxr) fun _ _ g => g.2) (Nat.le_add_right _ _) (arr_len he))
  | msd u l =>
    obtain ⟨rfl, S⟩ := hF
    exact arr_msd he h1 (I.ko u S.1) (k _ (I.msd he) (step_msd he) (Nat.le_add_right _ _) (arr_len he))
  | sdb u l =>
    obtain ⟨rfl, S⟩ := hF
    have kp := kp_arr (kept := kept) he
    have r := I.room (u := u) (Int.le_refl _)
    have e := I.r u
    have g1 : (W.win u).got ≤ (W.win u).lm := let' (Int.le_of_eq e.got) (let' e.hT (let' (I.s u).sa.tL e.lS))
    have g2 : W.wi.got ≤ W.wi.lm := let' (Int.le_add_of_nonneg_right mxl) r.2.2
    exact arr_sdb he h1 I.unk g1 g2 (us u) h3 (k _ ((I.op S).flyO (fun _ _ _ _ m => (kp.s _ _ _ _ m).resolve_right fun g => g.2) (fun _ m => (kp.m _ m).resolve_right fun g => g.2) (fun _ _ m => (kp.d _ _ m).resolve_right fun g => g.2) (arr_f (W := opW W u) (W' := opW W u) (I.op S) he fun _ _ h => h))
      (.of rfl rfl rfl rfl (Int.le_refl _) kp (fun _ _ _ _ g => g.2) (fun _ g => g.2.elim) fun _ _ g => g.2) (Nat.le_succ_of_le (hop u)) (arr_len he))
  | db l =>
    cases hF
    have kp := kp_arr (kept := kept) he
    exact arr_db he h1 h3 (k _ ((I.tell W.bk W.bz W.ct (W.log + 1)).flyO (fun _ _ _ _ m => (kp.s _ _ _ _ m).resolve_right fun g => g.2) (fun _ m => (kp.m _ m).resolve_right fun g => g.2) (fun _ _ m => (kp.d _ _ m).resolve_right fun g => g.2) (arr_f I he fun _ _ h => h))
      (.of rfl rfl rfl rfl (Int.le_refl _) kp (fun _ _ _ _ g => g.2) (fun _ g => g.2.elim) fun _ _ g => g.2) (Nat.le_succ _) (arr_len he))
end
end
section
theorem add_bup {α : Type} {o : Od} {u v : Bool} {f : Bool → α} {x z : α} : (bif (o.add u).has v then bup f u x v else z) = bup (fun v => bif o.has v then f v else z) u x v := by cases o <;> cases u <;> cases v <;> rfl
section
variable {n : Nat} {W : Wd} {u b o : Bool} {f : Fr} {i : Nat} {lo hi l m : Int} {e : Bool} {p' : Rcv} {p'' : SndP} {Q : V → Store → Prop}
theorem WI.lst (I : WI W) (he : W.fly[i]? = some (false, .st u lo hi e, true)) (K : SA (W.wr u) p'') (R : LosR (W.snd u) lo hi e p'') : WI (flyW (sndU W u p'') (dropF W.fly i)) :=
  have kp := kp_drop he
  ⟨bup_all (P := fun v y => SI (dropF W.fly i) v (W.wr v) y) ((I.s u).lost K R fun _ _ _ m => (kp.s u _ _ _ m).imp id fun g => g.2.2) fun v n => (I.s v).mono fun _ _ _ m => (kp.s v _ _ _ m).elim id fun g => absurd g.2.1 n,
   bup_all (P := fun v y => RI (dropF W.fly i) v (W.wr v) y (W.rcv v) (W.win v) (W.rlm v) (W.kno.has v) (owW W.p1 v)) ((I.r u).mono (Int.le_of_eq R.to.symm) R.lm R.ack R.ea fun _ m => (kp.d _ _ m).elim id fun g => g.2.elim) fun v _ => (I.r v).mono (Int.le_refl _) rfl rfl rfl fun _ m => (kp.d _ _ m).elim id fun g => g.2.elim,
   fun y m => (I.f y (drop_sub m)).mono rfl rfl (bup_all (P := fun v (y : SndP) => (W.snd v).to ≤ y.to) (Int.le_of_eq R.to.symm) fun _ _ => Int.le_refl _) (bup_all (P := fun v (y : SndP) => y.st = .rdy → (W.snd v).st = .rdy) (fun c => R.st ▸ c) fun _ _ => id) (Int.le_refl _) (fun _ => id) fun _ => Int.le_refl _,
   bup_all (P := fun v (y : SndP) => W.lims v = y.lm) ((I.ls u).trans R.lm.symm) fun v _ => I.ls v, I.ko, bup_all (P := fun v (y : SndP) => W.ord.has v = false → y.to = 0) (fun c => R.to.trans (I.od u c)) fun v _ => I.od v, I.cu.trans (sume SndP.to R.to), I.cc, I.cw, I.la, I.wg, I.wu, I.z1, I.z2, I.z3,
   fun c => (I.wo c).imp id fun m => (kp.m _ m).elim id fun g => g.2.elim, bup_all (P := fun v (y : SndP) => sg W v = y.to) ((I.se u).trans R.to.symm) fun v _ => I.se v, I.rd, I.ov, I.p1, I.p2, I.p3, I.p4, I.a0, I.a1, I.i0, I.sc⟩
theorem WI.lmd (I : WI W) (he : W.fly[i]? = some (true, .md l, b)) (h : OwQ b W.wi l o) : WI (flyW { W with wi := owX W.wi o } (dropF W.fly i)) :=
  have kp := kp_drop he
  ⟨fun u => (I.s u).mono fun _ _ _ m => (kp.s _ _ _ _ m).elim id fun g => g.2.elim, fun u => (I.r u).mono (Int.le_refl _) rfl rfl rfl fun _ m => (kp.d _ _ m).elim id fun g => g.2.elim, fun y m => I.f y (drop_sub m), I.ls, I.ko, I.od, I.cu, I.cc, I.cw, I.la, I.wg, I.wu, I.z1, I.z2, I.z3,
   fun c => (I.wo c).elim (fun a => .inl (h.1 a)) fun m => (kp.m _ m).symm.imp (fun g => h.2 g.1 g.2.symm) id, I.se, I.rd, I.ov, I.p1, I.p2, I.p3, I.p4, I.a0, I.a1, I.i0, I.sc⟩
theorem WI.lmsd (I : WI W) (he : W.fly[i]? = some (true, .msd u l, b)) (h : OwQ b (W.win u) l o) : WI (flyW { W with win := bup W.win u (owX (W.win u) o) } (dropF W.fly i)) :=
  have kp := kp_drop he
  have hk := (I.f _ (List.mem_of_getElem? he)).2.1
  have r := I.r u
  ⟨fun u => (I.s u).mono fun _ _ _ m => (kp.s _ _ _ _ m).elim id fun g => g.2.elim,
   bup_all (P := fun v y => RI (dropF W.fly i) v (W.wr v) (W.snd v) (W.rcv v) y (W.rlm v) (W.kno.has v) (owW W.p1 v)) ⟨r.ra, r.hT, r.rl, r.lS, r.got, r.usd, r.s1, r.s2, r.s3, r.ak, r.ea, fun c d => (r.ow c d).elim (fun a => .inl (h.1 a)) fun m => (kp.d _ _ m).symm.imp (fun g => h.2 g.1 g.2.2.symm) id, fun c => nomatch hk.symm.trans c⟩
     fun v n => (I.r v).mono (Int.le_refl _) rfl rfl rfl fun _ m => (kp.d _ _ m).elim id fun g => absurd g.2.1 n,
   fun y m => (I.f y (drop_sub m)).mono rfl rfl (fun _ => Int.le_refl _) (fun _ => id) (Int.le_refl _) (fun _ => id) (bup_all (P := fun v (y : Win) => (W.win v).lm ≤ y.lm) (Int.le_refl _) fun _ _ => Int.le_refl _), I.ls, I.ko, I.od, I.cu, I.cc, I.cw, I.la, I.wg, I.wu, I.z1, I.z2, I.z3,
   fun c => (I.wo c).imp id fun m => (kp.m _ m).elim id fun g => g.2.elim, I.se, I.rd, I.ov, I.p1, I.p2, I.p3, I.p4, I.a0, I.a1, I.i0, I.sc⟩
theorem WI.lno (I : WI W) {v : Bool} (he : W.fly[i]? = some (v, f, b)) (n1 : ∀ u lo hi e, ¬ gS f b u lo hi e) (n2 : ∀ l, ¬ gM f b l) (n3 : ∀ u l, ¬ gD f b u l) : WI (flyW W (dropF W.fly i)) :=
  have kp := kp_drop he
  I.flyO (fun _ _ _ _ m => (kp.s _ _ _ _ m).resolve_right (n1 _ _ _ _)) (fun _ m => (kp.m _ m).resolve_right (n2 _)) (fun _ _ m => (kp.d _ _ m).resolve_right (n3 _ _)) fun y m => I.f y (drop_sub m)
theorem l_lost (I : WI W) (hb : W.fly.length ≤ 100000) (hi : i < W.fly.length) (k : ∀ W', WI W' → W'.ord = W.ord → W'.log = W.log → W'.fly.length + 1 = W.fly.length → Q (.d .none) (stOf W')) :
    Call (callF (n + 5)) .x_law .x__law_is_lost [.loc (cb W.ord + 39), .d (.int i)] (stOf W) Q := by
  obtain ⟨⟨v, f, b⟩, he⟩ : ∃ x, W.fly[i]? = some x := ⟨_, List.getElem?_eq_getElem hi⟩
  have hF := I.f _ (List.mem_of_getElem? he)
  have L := drop_len he
  cases f with
  | st u lo hi e =>
    obtain ⟨rfl, S⟩ := hF
    exact los_st he hb S.has (I.s u).sa S.st S.lo0 S.lh S.to (fun hb => k _ (I.lno he (fun _ _ _ _ g => nomatch hb.symm.trans g.1) (fun _ g => nomatch hb.symm.trans g.1) fun _ _ g => nomatch hb.symm.trans g.1) rfl rfl L) fun hb p' K R => k _ (I.lst (hb ▸ he) K R) rfl rfl L
  | md l =>
    obtain ⟨rfl, S⟩ := hF
    exact los_md he hb fun o h => k _ (I.lmd he h) rfl rfl L
  | msd u l =>
    obtain ⟨rfl, S⟩ := hF
    exact los_msd he hb S.1 fun o h => k _ (I.lmsd he h) rfl rfl L
  | sdb u l =>
    obtain ⟨rfl, S⟩ := hF
    exact los_sdb he hb fun o => k _ ((I.tell o W.bz W.ct W.log).lno he (fun _ _ _ _ g => g.2) (fun _ g => g.2) fun _ _ g => g.2) rfl rfl L
  | db l =>
    cases hF
    exact los_db he hb fun o => k _ ((I.tell W.bk W.bz o W.log).lno he (fun _ _ _ _ g => g.2) (fun _ g => g.2) fun _ _ g => g.2) rfl rfl L
theorem WI.read (I : WI W) (hk : W.kno.has u = true) (J : RA (W.wr u) p') (R : RdR (W.wr u) (W.rcv u) m p') : WI (rdsW W u p') :=
  have r := I.r u
  have eq : p'.rt = (W.rcv u).rt + (p'.rt - (W.win u).usd) := by rw [r.usd]; exact asb.symm
  ⟨I.s, bup_all2 (P := fun v y z => RI W.fly v (W.wr v) (W.snd v) y z (W.rlm v) (W.kno.has v) (owW W.p1 v)) (r.read J R hk) fun v _ => I.r v,
   fun y m => (I.f y m).mono rfl rfl (fun _ => Int.le_refl _) (fun _ => id) (Int.le_refl _) (fun _ => id) (bup_all (P := fun v (y : Win) => (W.win v).lm ≤ y.lm) (Int.le_refl _) fun _ _ => Int.le_refl _), I.ls, I.ko, I.od, I.cu, I.cc, I.cw, I.la,
   I.wg.trans (sume Rcv.hi R.hi), (congrArg (· + _) I.wu).trans (sumb Rcv.rt eq), I.z1, I.z2, I.z3, I.wo, I.se, fun v => add_bup.trans (bup_all2 (P := fun v y (q : Rcv) => y = q.rt) rfl (fun v _ => I.rd v) v), fun v => add_bup.trans (bup_all2 (P := fun v y (q : Rcv) => y = isRed q.st) rfl (fun v _ => I.ov v) v),
   I.p1, I.p2, I.p3, I.p4, I.a0, I.a1, I.i0, I.sc⟩
end
end
section
def StQ (w : List UInt8) (q : Rcv) : Prop := ¬ Mem q.rt q.pcs ∧ ¬ (q.st = .dat ∧ q.rt = w.length)
structure RdI (m : Int) (W : Wd) (l : List Bool) (W' : Wd) : Prop where
  inv : WI W'
  ord : W'.ord = W.ord
  wr : W'.wr = W.wr
  snd : W'.snd = W.snd
  cl : W'.cl = W.cl
  cu : W'.cu = W.cu
  fly : W'.fly = W.fly
  log : W'.log = W.log
  sub : ∀ u ∈ l, W.ord.has u = true
  set : 13 ≤ m → ∀ v, v ∈ l ∨ StQ (W'.wr v) (W'.rcv v)
section
variable {n : Nat} {W : Wd} {u : Bool} {m : Int} {Q : V → Store → Prop}
theorem ol_has {o : Od} (h : u ∈ ol o) : o.has u = true := by
  cases o
  · cases h
  · exact List.mem_singleton.mp h ▸ rfl
  · exact List.mem_singleton.mp h ▸ rfl
  · cases u <;> rfl
  · cases u <;> rfl
theorem has_ol {o : Od} (h : o.has u = true) : u ∈ ol o := by
  cases o <;> cases u <;> first | exact .head _ | exact .tail _ (.head _) | cases h
theorem StQ.no : StQ (W.wr u) rcv0 := ⟨id, fun c => nomatch c.1⟩
theorem WI.st1 (I : WI W) (h : W.kno.has u = false ∨ ovU W u = true) : StQ (W.wr u) (W.rcv u) :=
  h.elim (fun h => ((I.r u).un h).1 ▸ StQ.no) fun h =>
    have r := (I.r u).ra
    have d := (I.ov u).symm.trans h
    ⟨fun q => let ⟨p, mp, _, c⟩ := mem_iff.mp q; ln (isr r d ▸ (r.pc.inn p mp).2.2) c, fun c => nomatch (c.1 ▸ d : isRed .dat = true)⟩
theorem l_reads (I : WI W) (hm : 0 ≤ m) (k : ∀ W', RdI m W [] W' → Q (.d (.bool true)) (stOf W')) : Call (callF (n + 4)) .x_law .x__law_reads [.loc (cb W.ord + 39), .d (.int m)] (stOf W) Q :=
  reads (RdI m W) ⟨I, rfl, rfl, rfl, rfl, rfl, rfl, rfl, fun _ => ol_has, fun _ v => b2 (W.ord.has v) (fun h => .inl (has_ol h)) fun h => .inr (I.st1 (.inl (b2 (W.kno.has v) (fun c => nomatch h.symm.trans (I.ko v c)) id)))⟩ hm
    (fun u l W' h => ⟨h.ord ▸ h.sub u (.head _), (h.inv.r u).ra, Int.ofNat_le.mp (let' (h.inv.s u).sa.n (by decide)), Int.le_of_eq (h.inv.r u).usd, h.inv.rd u⟩)
    (fun u l W' h c => ⟨h.inv, h.ord, h.wr, h.snd, h.cl, h.cu, h.fly, h.log, fun v m => h.sub v (.tail _ m), fun d v => (h.set d v).elim (fun m => (List.mem_cons.mp m).elim (fun e => .inr (e ▸ h.inv.st1 c)) .inl) .inr⟩)
    (fun u l W' h hk ho p' J R => ⟨h.inv.read hk J R, h.ord, h.wr, h.snd, h.cl, h.cu, h.fly, h.log, fun v m => h.sub v (.tail _ m), fun d => bup_all (P := fun v (q : Rcv) => v ∈ l ∨ StQ (W'.wr v) q) (.inr (R.set (let' (h.inv.s u).sa.n d))) fun v n => (h.set d v).imp (fun m => (List.mem_cons.mp m).resolve_left n) id⟩)
    fun W' h _ => k W' h
structure GK (W W' : Wd) : Prop where
  ord : W'.ord = W.ord
  wr : W'.wr = W.wr
  cl : W'.cl = W.cl
  kno : W'.kno = W.kno
  rcv : W'.rcv = W.rcv
  win : W'.win = W.win
  wi : W'.wi = W.wi
  log : W'.log = W.log
  snd : ∀ v, (W'.snd v).ack = (W.snd v).ack ∧ (W'.snd v).ea = (W.snd v).ea ∧ (W'.snd v).lm = (W.snd v).lm
  len : W'.fly.length ≤ W.fly.length + 4
  fly : ∀ y ∈ W.fly, y ∈ W'.fly
theorem flA_mem {v : Bool} {cf : List Fr} {y : Bool × Fr × Bool} (h : y ∈ flA v cf) : y.1 = v ∧ y.2.1 ∈ cf := by
  obtain ⟨f, m, rfl⟩ := List.mem_map.mp h
  exact ⟨rfl, m⟩
theorem mem_flA {v : Bool} {cf : List Fr} {f : Fr} (h : f ∈ cf) : (v, f, true) ∈ flA v cf := List.mem_map.mpr ⟨f, h, rfl⟩
theorem cf_ok {f : Fr} (h : CF1 W f) : FOK W false f := h.elim (fun ⟨u, z, e, c⟩ => by rw [e]; exact ⟨rfl, c⟩) fun ⟨z, e⟩ => by rw [e]; exact rfl
theorem app_f {W' : Wd} {v : Bool} {cf : List Fr} (h1 : ∀ y ∈ W.fly, FOK W' y.1 y.2.1) (h2 : ∀ f ∈ cf, FOK W' v f) : ∀ y ∈ W.fly ++ flA v cf, FOK W' y.1 y.2.1 := fun y m => (List.mem_append.mp m).elim (h1 y) fun m => (flA_mem m).1 ▸ h2 _ (flA_mem m).2
theorem app_len {F : Fly} {v : Bool} {cf : List Fr} {k : Nat} (h : cf.length ≤ k) : (F ++ flA v cf).length ≤ F.length + k := by rw [List.length_append, flA, List.length_map]; exact Nat.add_le_add_left h _
theorem WI.none (I : WI W) {o : Od} {g : Bool → Int} {c : Option Int} {cf : List Fr} (h : ∀ f ∈ cf, CF1 W f) : WI (flyW (ctlW W o g c) (W.fly ++ flA false cf)) :=
  (I.tell o g c W.log).flyO (fun _ _ _ _ m => List.mem_append_left _ m) (fun _ m => List.mem_append_left _ m) (fun _ _ m => List.mem_append_left _ m) (app_f I.f fun f m => cf_ok (h f m))
end
end
section
section
variable {n : Nat} {W : Wd} {u e : Bool} {lo hi t : Int} {p' : SndP} {cf : List Fr} {o : Od} {g : Bool → Int} {ct : Option Int} {a : Win} {b : Bool → Win} {c : Bool → Int} {fs : List Fr}
theorem sum_ol {o : Od} {g : Bool → Int} : ((ol o).map g).sum = (bif o.has false then g false else 0) + (bif o.has true then g true else 0) := by
  cases o
  · rfl
  · rfl
  · exact Int.add_comm (g true) 0
  · exact congrArg (g false + ·) (Int.add_zero (g true))
  · exact (congrArg (g true + ·) (Int.add_zero (g false))).trans (Int.add_comm _ _)
theorem NdR.ge (R : NdR W u lo hi e p') : (W.snd u).to ≤ p'.to := R.ch.to ▸ mxl
theorem NdR.eq (R : NdR W u lo hi e p') : p'.to = (W.snd u).to + max 0 (p'.to - (W.snd u).to) := (Int.max_eq_right R.ge).symm.trans adm.symm
theorem WI.dse (I : WI W) (R : NdR W u lo hi e p') (v : Bool) : (bif (W.sk.add u).has v then bup W.sent u (max (sg W u) hi) v else 0) = (bup W.snd u p' v).to :=
  add_bup.trans (bup_all2 (P := fun _ (y : Int) (q : SndP) => y = q.to) ((congrArg (max · hi) (I.se u)).trans R.ch.to.symm) (fun v _ => I.se v) v)
theorem WI.dcc (I : WI W) (R : NdR W u lo hi e p') : W.cu + max 0 (p'.to - (W.snd u).to) ≤ W.cl :=
  have m0 := Int.sub_nonneg_of_le I.cc
  have m1 : p'.to ≤ (W.snd u).to + (W.cl - W.cu) := R.ch.to ▸ mxle (Int.le_add_of_nonneg_right m0) (if d : (W.snd u).to < hi then R.ch.f.sp d else let' (nl d) (Int.le_add_of_nonneg_right m0))
  Int.add_le_of_le_sub_left (mxle m0 (Int.sub_left_le_of_le_add m1))
theorem WI.dcu (I : WI W) (R : NdR W u lo hi e p') : W.cu + max 0 (p'.to - (W.snd u).to) = (bup W.snd u p' false).to + (bup W.snd u p' true).to := (congrArg (· + _) I.cu).trans (sumb SndP.to R.eq)
theorem WI.dS (I : WI W) (R : NdR W u lo hi e p') : ((ol (W.sk.add u)).map (bup W.sent u (max (sg W u) hi))).sum ≤ W.lall := by
  rw [sum_ol, I.dse R, I.dse R, I.la]
  exact let' (Int.le_of_eq (I.dcu R).symm) (I.dcc R)
theorem WI.data (I : WI W) (h : ∀ f ∈ cf, CF1 W f) (R : NdR W u lo hi e p') : WI (flyW (sentW (dataW (ctlW W o g ct) u p' t) u hi) (W.fly ++ flA false (cf ++ [Fr.st u lo hi e]))) :=
  have hold : ∀ y ∈ W.fly, y ∈ W.fly ++ flA false (cf ++ [Fr.st u lo hi e]) := fun y m => List.mem_append_left _ m
  have C := R.ch
  have ns : p'.st ≠ .rdy := fun q => C.st.elim (fun d => nomatch d.symm.trans q) fun d => nomatch d.symm.trans q
  have mk : ∀ v f, FOK W v f → FOK (flyW (sentW (dataW (ctlW W o g ct) u p' t) u hi) (W.fly ++ flA false (cf ++ [Fr.st u lo hi e]))) v f := fun v f h =>
    h.mono rfl rfl (bup_all (P := fun v (y : SndP) => (W.snd v).to ≤ y.to) R.ge fun _ _ => Int.le_refl _) (bup_all (P := fun v (y : SndP) => y.st = .rdy → (W.snd v).st = .rdy) (fun q => absurd q ns) fun _ _ => id) (Int.le_refl _) (fun _ => id) fun _ => Int.le_refl _
  ⟨bup_all (P := fun v y => SI (W.fly ++ flA false (cf ++ [Fr.st u lo hi e])) v (W.wr v) y) ((I.s u).chunk R.sa C (fun _ _ _ => hold _) (List.mem_append_right _ (mem_flA (List.mem_append_right _ (.head _))))) fun v _ => (I.s v).mono fun _ _ _ => hold _,
   bup_all (P := fun v y => RI (W.fly ++ flA false (cf ++ [Fr.st u lo hi e])) v (W.wr v) y (W.rcv v) (W.win v) (W.rlm v) (W.kno.has v) (owW W.p1 v)) ((I.r u).mono R.ge C.lm C.ack C.ea fun _ => hold _) fun v _ => (I.r v).mono (Int.le_refl _) rfl rfl rfl fun _ => hold _,
   app_f (fun y m => mk _ _ (I.f y m)) fun f m => (List.mem_append.mp m).elim (fun m => mk _ _ (cf_ok (h f m))) fun m => by
     rw [List.mem_singleton.mp m]
     refine ⟨rfl, ?_⟩
     show FS (W.ord.has u) (W.wr u) (bup W.snd u p' u) lo hi e
     rw [bup_self]
     exact ⟨R.has, C.f.lo0, C.f.lh, C.to ▸ mxr, C.en, ns⟩,
   bup_all (P := fun v (y : SndP) => W.lims v = y.lm) ((I.ls u).trans C.lm.symm) fun v _ => I.ls v, I.ko, bup_all (P := fun v (y : SndP) => W.ord.has v = false → y.to = 0) (fun q => nomatch R.has.symm.trans q) fun v _ => I.od v,
   I.dcu R, I.dcc R, I.cw, I.la, I.wg, I.wu, I.z1, I.z2, I.z3, fun q => (I.wo q).imp id (hold _), I.dse R, I.rd, I.ov, I.p1, I.p2, I.p3, I.p4, I.a0, I.a1, I.i0, I.sc⟩
theorem WI.n13 (I : WI W) (u : Bool) : ((W.wr u).length : Int) ≤ 13 := (I.s u).sa.n
theorem WI.rtN (I : WI W) (u : Bool) : (W.rcv u).rt ≤ 13 := let' (I.r u).ra.rN (I.n13 u)
theorem WI.us26 (I : WI W) : W.wi.usd ≤ 26 := I.wu ▸ Int.add_le_add (I.rtN false) (I.rtN true)
theorem LmI.lw {D : Bool → Prop} (L : LmI W a b c fs D) (I : WI W) : a.got = W.wi.got ∧ a.usd = W.wi.usd ∧ a.sz = W.wi.sz ∧ W.wi.lm ≤ a.lm ∧ a.lm ≤ 42 ∧ (W.cl < a.lm → a.ow = true ∨ (true, Fr.md a.lm, true) ∈ W.fly ++ flA true fs) :=
  L.wi.elim (fun h => by rw [h.1]; exact ⟨rfl, rfl, rfl, Int.le_refl _, I.z3, fun q => (I.wo q).imp id (List.mem_append_left _)⟩) fun ⟨l, T, e, m⟩ => by rw [e]; exact ⟨rfl, rfl, rfl, T.le (let' (by decide) I.z1),
    T.elim (fun T => (show l ≤ 42 from T.2.1 ▸ I.z3)) fun T => (show l ≤ 42 from T.2 ▸ Int.add_le_add I.us26 I.z2), fun _ => .inr (List.mem_append_right _ (mem_flA m))⟩
theorem LmI.lu {D : Bool → Prop} (L : LmI W a b c fs D) (I : WI W) (v : Bool) : (W.win v).lm ≤ (b v).lm := (L.st v).elim (fun h => Int.le_of_eq (congrArg Win.lm h.1.symm)) fun ⟨_, _, T, e, _⟩ => e ▸ T.le (let' (by decide) (I.r v).s1)
theorem WI.srv {D : Bool → Prop} (I : WI W) (L : LmI W a b c fs D) : WI (flyW { W with wi := a, win := b, rlm := c } (W.fly ++ flA true fs)) :=
  have hold : ∀ y ∈ W.fly, y ∈ W.fly ++ flA true fs := fun y m => List.mem_append_left _ m
  have A := L.lw I
  ⟨fun v => (I.s v).mono fun _ _ _ => hold _,
   fun v => (L.st v).elim (fun h => by show RI _ v _ _ _ (b v) (c v) _ _; rw [h.1, h.2.1]; exact (I.r v).mono (Int.le_refl _) rfl rfl rfl fun _ => hold _) fun ⟨l, hk, T, hb, hc, hm⟩ => by show RI _ v _ _ _ (b v) (c v) _ _; rw [hb, hc]; exact (I.r v).lim (I.n13 v) T hk (List.mem_append_right _ (mem_flA hm)),
   app_f (fun y m => (I.f y m).mono rfl rfl (fun _ => Int.le_refl _) (fun _ => id) A.2.2.2.1 (fun _ => id) (L.lu I)) fun f m => (L.fr f m).elim (fun ⟨l, h, e⟩ => by rw [e]; exact ⟨rfl, h⟩) fun ⟨u, l, hk, h, e⟩ => by rw [e]; exact ⟨rfl, hk, h⟩,
   I.ls, I.ko, I.od, I.cu, I.cc, let' I.cw A.2.2.2.1, I.la, A.1.trans I.wg, A.2.1.trans I.wu, let' I.z1 (Int.le_of_eq A.2.2.1.symm), let' (Int.le_of_eq A.2.2.1) I.z2, A.2.2.2.2.1, A.2.2.2.2.2, I.se, I.rd, I.ov, I.p1, I.p2, I.p3, I.p4, I.a0, I.a1, I.i0, I.sc⟩
end
end
section
noncomputable def poolC (a : Int) (sc : List Int) (i : Int) : Cell := .lst [.d (.int a), .d (.lst (sc.map .int)), .d (.int i)]
section
variable {n : Nat} {s : Store} {p : Nat} {a i many : Int} {sc : List Int} {Q : V → Store → Prop}
theorem draw2 {x2 : V} {c : Int} (h : s[p]? = some (poolC a sc i)) (h0 : 0 ≤ a) (h1 : a < 2147483647) (hm : 0 < many) (k : ∀ d a', 0 ≤ d → d < many → 0 ≤ a' → a' < 2147483647 → Q (.d (.int d)) (s.set p (poolC a' sc (i + 1)))) :
    wB (callF n) (f__law_draw.body.drop 2) [some (.loc p), some (.d (.int many)), some x2, some (.d (.int c))] none s (kEnd Q) Q := by
  have i2 : (0 : Int) ≤ 2 ∧ (2 : Int) < 1000000 := by decide
  have b2 : (0 : Int) ≤ 2 ∧ (2 : Int) < 3 ∧ (2 : Int) < 1000000 := by decide
  have b0 : (0 : Int) ≤ 0 ∧ (0 : Int) < 3 ∧ (0 : Int) < 1000000 := by decide
  have g1 : (s.set p (poolC a sc (i + 1)))[p]? = some (poolC a sc (i + 1)) := gs_self h
  refine ons h ⟨i2, ons h ⟨b2, ons g1 ⟨i0, ⟨ltle (by decide) h0, ltt h1 (by decide), by decide, by decide⟩, by decide, by decide, ons g1 ⟨b0, ?_⟩⟩⟩⟩
  have A0 : 0 ≤ (a * 48271 + c % 1000003 + 31) % 2147483647 := Int.emod_nonneg _ (by decide)
  have A1 : (a * 48271 + c % 1000003 + 31) % 2147483647 < 2147483647 := Int.emod_lt_of_pos _ (by decide)
  exact ons (gs_self g1) ⟨i0, ⟨by decide, by decide⟩, hm, q_set (Q := Q _) (k _ _ (Int.emod_nonneg _ (Int.ne_of_gt hm)) (Int.emod_lt_of_pos _ hm) A0 A1)⟩
theorem draw (h : s[p]? = some (poolC a sc i)) (hs : sc.length ≤ 1000) (h0 : 0 ≤ a) (h1 : a < 2147483647) (hm : 0 < many) (k : ∀ d a', 0 ≤ d → d < many → 0 ≤ a' → a' < 2147483647 → Q (.d (.int d)) (s.set p (poolC a' sc (i + 1)))) :
    Call (callF (n + 1)) .x_law .x__law_draw [.loc p, .d (.int many)] s Q := by
  have i2 : (0 : Int) ≤ 2 ∧ (2 : Int) < 1000000 := by decide
  cases sc with
  | nil => exact ⟨ons h ⟨i1, draw2 h h0 h1 hm k⟩⟩
  | cons c sc =>
    have hl : ((c :: sc).map D.int).length ≤ 1000 := (List.length_map (as := c :: sc) D.int).symm ▸ hs
    have hp : (0 : Int) < ((c :: sc).map D.int).length := Int.ofNat_lt.mpr (Nat.succ_pos _)
    have m0 := Int.emod_nonneg i (Int.ne_of_gt hp)
    have m1 := Int.emod_lt_of_pos i hp
    have hk : (i % (((c :: sc).map D.int).length : Int)).toNat < (c :: sc).length := (List.length_map (as := c :: sc) D.int) ▸ (Int.toNat_lt m0).mpr m1
    have e : ((c :: sc).map D.int)[(i % (((c :: sc).map D.int).length : Int)).toNat]? = some (.int ((c :: sc)[(i % (((c :: sc).map D.int).length : Int)).toNat])) := by rw [List.getElem?_map, List.getElem?_eq_getElem hk]; rfl
    exact ⟨ons h ⟨i1, ons h ⟨i2, Nat.le_trans hl (by decide), hp, ⟨m0, ltt m1 (lelt (Int.ofNat_le.mpr hl) (by decide))⟩, ons e (draw2 h h0 h1 hm k)⟩⟩⟩
end
section
variable {n : Nat} {W : Wd} {room many : Int} {Q : V → Store → Prop}
noncomputable def drW (W : Wd) (a : Int) : Wd := { W with pa := a, pi := W.pi + 1 }
theorem l_draw (I : WI W) (hm : 0 < many) (k : ∀ d a', 0 ≤ d → d < many → WI (drW W a') → Q (.d (.int d)) (stOf (drW W a'))) : Call (callF (n + 1)) .x_law .x__law_draw [.loc 0, .d (.int many)] (stOf W) Q :=
  draw (sc := W.sc) (a := W.pa) (i := W.pi) rfl I.sc I.a0 I.a1 hm fun d a' d0 d1 a0 a1 => k d a' d0 d1 (I.draw a0 a1 (Int.le_add_one I.i0))
theorem l_goes0 (I : WI W) (hb : W.fly.length ≤ 100000) (r8 : 8 ≤ room) (r64 : room < 64) (k : ∀ W', WI W' → GK W W' → (W'.snd = W.snd ∧ W'.cu = W.cu ∧ ∀ u, W.ord.has u = true → N0 (W.wr u) (W.snd u) (W.cl - W.cu)) ∨ (∃ u lo hi e p', NdR W u lo hi e p' ∧ (false, Fr.st u lo hi e, true) ∈ W'.fly) → Q (.d (.bool true)) (stOf W')) :
    Call (callF (n + 9)) .x_law .x__law_goes [.loc (cb W.ord + 39), .d (.int 0), .d (.int room)] (stOf W) Q :=
  goes_client (let' (by decide) I.p1) I.p2 I.p3 I.p4 (fun u => (I.s u).sa) I.ls I.cc hb r8 r64 (fun _ _ _ _ _ R => I.dS R)
    (fun _ _ _ _ l h q => k _ (I.none h) ⟨rfl, rfl, rfl, rfl, rfl, rfl, rfl, rfl, fun _ => ⟨rfl, rfl, rfl⟩, app_len (Nat.le_succ_of_le l), fun _ => List.mem_append_left _⟩ (.inl ⟨rfl, rfl, q⟩))
    fun _ _ _ cf u lo hi e p' t l h R => k _ (I.data h R) ⟨rfl, rfl, rfl, rfl, rfl, rfl, rfl, rfl, bup_all (P := fun v (y : SndP) => y.ack = (W.snd v).ack ∧ y.ea = (W.snd v).ea ∧ y.lm = (W.snd v).lm) ⟨R.ch.ack, R.ch.ea, R.ch.lm⟩ fun _ _ => ⟨rfl, rfl, rfl⟩,
      app_len (by rw [List.length_append]; exact Nat.succ_le_succ l), fun _ => List.mem_append_left _⟩ (.inr ⟨u, lo, hi, e, p', R, List.mem_append_right _ (mem_flA (List.mem_append_right _ (.head _)))⟩)
structure GS (W W' : Wd) : Prop where
  ord : W'.ord = W.ord
  wr : W'.wr = W.wr
  snd : W'.snd = W.snd
  cl : W'.cl = W.cl
  cu : W'.cu = W.cu
  log : W'.log = W.log
  len : W'.fly.length ≤ W.fly.length + 4
  fly : ∀ y ∈ W.fly, y ∈ W'.fly
  lw : WinN W.wi ∨ ∃ l, WinT W.wi l ∧ (true, Fr.md l, true) ∈ W'.fly
  lu : ∀ u, W.kno.has u = true → (W.rcv u).st = .rcg → WinN (W.win u) ∨ ∃ l, WinT (W.win u) l ∧ (true, Fr.msd u l, true) ∈ W'.fly
theorem bnd {a b : Int} (h0 : 0 ≤ a) (h1 : a ≤ 42) (h2 : 0 ≤ b) (h3 : b ≤ 26) : -1000000 < a - b ∧ a - b < 1000000 := by omega
theorem l_goes1 (I : WI W) (hb : W.fly.length ≤ 100000) (r8 : 8 ≤ room) (r64 : room < 64) (k : ∀ W', WI W' → GS W W' → Q (.d (.bool true)) (stOf W')) : Call (callF (n + 9)) .x_law .x__law_goes [.loc (cb W.ord + 39), .d (.int 1), .d (.int room)] (stOf W) Q :=
  goes_server hb (ltle (by decide) I.p1) (fun u => have r := I.r u; ⟨let' (by decide) r.s1, bnd (let' (by decide) (let' (I.s u).sa.l1 r.lS)) (let' r.s3 (by decide)) (r.usd ▸ r.ra.r0) (r.usd ▸ let' (I.rtN u) (by decide))⟩)
    (bnd (let' (I.cu ▸ Int.add_nonneg (I.s false).sa.t0 (I.s true).sa.t0) (let' I.cc I.cw)) I.z3 (I.wu ▸ Int.add_nonneg (I.r false).ra.r0 (I.r true).ra.r0) I.us26) r8 r64
    fun a b c fs L l => k _ (I.srv L) ⟨rfl, rfl, rfl, rfl, rfl, rfl, app_len (Nat.le_succ_of_le l), fun _ => List.mem_append_left _, L.wi.imp And.right fun ⟨l, T, _, m⟩ => ⟨l, T, List.mem_append_right _ (mem_flA m)⟩,
      fun u hk hr => (L.st u).imp (fun h => h.2.2 hk hr) fun ⟨l, _, T, _, _, m⟩ => ⟨l, T, List.mem_append_right _ (mem_flA m)⟩⟩
end
end
section
section
variable {n : Nat} {W : Wd} {Q : V → Store → Prop}
theorem kept1 (b : Bool) : (bif b then 1 else 0) ≤ 1 := by cases b; exact Nat.zero_le 1; exact Nat.le_refl 1
theorem bnd2 {a b c d : Nat} (h : c ≤ a + 2) (k : d + 1 ≤ b + 1) : c + 2 * d ≤ a + 2 * b + 8 := by omega
theorem l_turn (I : WI W) (hb : W.log + 2 * W.fly.length + 8 ≤ 100000) (k : ∀ W', WI W' → W'.ord = W.ord → W'.log + 2 * W'.fly.length ≤ W.log + 2 * W.fly.length + 8 → Q (.d (.bool true)) (stOf W')) : Call (callF (n + 10)) .x_law .x__law_turn [.loc (cb W.ord + 39), .loc 0] (stOf W) Q := by
  have fl : W.fly.length ≤ 100000 := by omega
  have ml := List.length_map (as := W.fly) (flD W.wr)
  have ll : (W.fly.map (flD W.wr)).length ≤ lim := ml ▸ Nat.le_trans fl (by decide)
  refine ⟨l_draw (n := n + 8) I (by decide) fun form a1 f0 f1 I1 => ons (look_w (W := drW W a1)) ⟨ll, ?_⟩⟩
  have g : wB (callF (n + 9)) (iffB f__law_turn.body[1]?) [some (.loc (cb W.ord + 39)), some (.loc 0), some (.d (.int form)), some (.d (.int ((W.fly.map (flD W.wr)).length : Int)))] none (stOf (drW W a1)) (kEnd Q) Q :=
    br (fun _ => l_draw (n := n + 8) I1 (by decide) fun d a2 d0 d1 I2 => l_goes0 I2 fl (Int.add_le_add (Int.le_refl 8) d0) (Int.add_lt_add_left d1 8 |> fun h => ltt h (by decide)) fun W' J G _ => k W' J G.ord (G.log.symm ▸ Nat.add_le_add_left (Nat.mul_le_mul_left 2 G.len) W.log))
      fun _ => l_draw (n := n + 8) I1 (by decide) fun d a2 d0 d1 I2 => l_goes1 I2 fl (Int.add_le_add (Int.le_refl 8) d0) (Int.add_lt_add_left d1 8 |> fun h => ltt h (by decide)) fun W' J G => k W' J G.ord (G.log.symm ▸ Nat.add_le_add_left (Nat.mul_le_mul_left 2 G.len) W.log)
  refine br (fun _ => g) fun c1 => br (fun _ => g) fun c2 => ?_
  clear g
  have mp : (0 : Int) < ((W.fly.map (flD W.wr)).length : Int) := Int.lt_iff_le_and_ne.mpr ⟨Int.natCast_nonneg _, fun q => c2 q.symm⟩
  refine br (fun _ => l_draw (n := n + 8) I1 (by decide) fun d a2 d0 d1 I2 => l_reads (n := n + 5) I2 (Int.add_nonneg (by decide) d0) fun W' R => k W' R.inv R.ord (by rw [R.log, R.fly]; exact Nat.le_add_right _ _)) fun c3 =>
    br (fun _ => l_draw (n := n + 8) I1 mp fun d a2 d0 d1 I2 => l_draw (n := n + 8) I2 (by decide) fun d' a3 _ _ I3 => ?_) fun _ => l_draw (n := n + 8) I1 mp fun d a2 d0 d1 I2 => ?_
  · obtain ⟨j, rfl⟩ := Int.eq_ofNat_of_zero_le d0
    have lt : j < W.fly.length := ml ▸ Int.ofNat_lt.mp d1
    exact l_arr (n := n + 2) (i := j) (kept := decide (d' = 0)) I3 (Nat.le_trans (Nat.le_add_right _ 8) hb) lt fun W' J S e1 e2 => k W' J S.ord (bnd2 e1 (Nat.le_trans (Nat.le_of_eq e2) (Nat.add_le_add_left (kept1 _) _)))
  · obtain ⟨j, rfl⟩ := Int.eq_ofNat_of_zero_le d0
    have lt : j < W.fly.length := ml ▸ Int.ofNat_lt.mp d1
    exact l_lost (n := n + 4) (i := j) I2 fl lt fun W' J e0 e1 e2 => k W' J e0 (bnd2 (Nat.le_add_right_of_le (Nat.le_of_eq e1)) (Nat.le_succ_of_le (Nat.le_of_eq e2)))
end
end
section
noncomputable def one0 (P : Prop) : Nat := @ite _ P (Classical.propDecidable P) 0 1
section
variable {P Q : Prop}
theorem one_t (h : P) : one0 P = 0 := @if_pos P (Classical.propDecidable P) h _ _ _
theorem one_f (h : ¬ P) : one0 P = 1 := @if_neg P (Classical.propDecidable P) h _ _ _
theorem one_le1 : one0 P ≤ 1 := (Classical.em P).elim (fun h => one_t h ▸ Nat.zero_le 1) fun h => Nat.le_of_eq (one_f h)
theorem one_le (h : P → Q) : one0 Q ≤ one0 P := (Classical.em P).elim (fun p => one_t (h p) ▸ Nat.zero_le _) fun p => one_f p ▸ one_le1
theorem one_zero (h : one0 P = 0) : P := Classical.byContradiction fun p => nomatch (one_f p).symm.trans h
end
noncomputable def cnt (A : Int → Prop) (k : Nat) : Nat := Nat.rec (motive := fun _ => Nat) 0 (fun k n => n + one0 (A k)) k
section
variable {A B : Int → Prop}
theorem cnt_le (k : Nat) : cnt A k ≤ k := Nat.rec (motive := fun k => cnt A k ≤ k) (Nat.le_refl 0) (fun _ h => Nat.add_le_add h one_le1) k
theorem cnt_mono (h : ∀ z, A z → B z) (k : Nat) : cnt B k ≤ cnt A k := Nat.rec (motive := fun k => cnt B k ≤ cnt A k) (Nat.le_refl 0) (fun _ i => Nat.add_le_add i (one_le (h _))) k
theorem cnt_lt (h : ∀ z, A z → B z) {z : Nat} (b : B z) (a : ¬ A z) (k : Nat) : z < k → cnt B k < cnt A k := Nat.rec (motive := fun k => z < k → cnt B k < cnt A k) (fun h => absurd h (Nat.not_lt_zero _))
  (fun k i l => (Nat.lt_succ_iff_lt_or_eq.mp l).elim (fun l => Nat.add_lt_add_of_lt_of_le (i l) (one_le (h _))) fun e => Nat.add_lt_add_of_le_of_lt (cnt_mono h k) (e ▸ (by rw [one_t b, one_f a]; exact Nat.zero_lt_one))) k
theorem cnt_zero (k : Nat) : cnt A k = 0 → ∀ z : Nat, z < k → A z := Nat.rec (motive := fun k => cnt A k = 0 → ∀ z : Nat, z < k → A z) (fun _ z h => absurd h (Nat.not_lt_zero _))
  (fun k i e z l => have e := Nat.add_eq_zero_iff.mp e; (Nat.lt_succ_iff_lt_or_eq.mp l).elim (i e.1 z) fun q => q ▸ one_zero e.2) k
theorem cnt_all (h : ∀ z : Nat, A z) (k : Nat) : cnt A k = 0 := Nat.rec (motive := fun k => cnt A k = 0) rfl (fun k i => by show cnt A k + _ = 0; rw [i, one_t (h k)]) k
end
def Ak (w : List UInt8) (p : SndP) (z : Int) : Prop := z < w.length → Mem z p.ack
def AllA (w : List UInt8) (p : SndP) : Prop := (∀ z : Int, 0 ≤ z → Ak w p z) ∧ p.ea = true
noncomputable def mu0 (w : List UInt8) (p : SndP) : Nat := cnt (Ak w p) w.length + one0 (p.ea = true)
noncomputable def mu1 (W : Wd) (u : Bool) : Nat := bif W.ord.has u then mu0 (W.wr u) (W.snd u) else 0
noncomputable def mu (W : Wd) : Nat := mu1 W false + mu1 W true
structure Kq (W W' : Wd) : Prop where
  ord : W'.ord = W.ord
  wr : W'.wr = W.wr
  ack : ∀ u z, Mem z (W.snd u).ack → Mem z (W'.snd u).ack
  ea : ∀ u, (W.snd u).ea = true → (W'.snd u).ea = true
section
variable {W W' : Wd} {u : Bool} {w : List UInt8} {p p' : SndP}
theorem all_mu0 (h : AllA w p) : mu0 w p = 0 := by rw [mu0, one_t h.2, cnt_all fun z => h.1 z (Int.natCast_nonneg z)]
theorem mu0_all (h : mu0 w p = 0) : AllA w p := have h := Nat.add_eq_zero_iff.mp h; ⟨fun z z0 zl => by
  obtain ⟨z, rfl⟩ := Int.eq_ofNat_of_zero_le z0
  exact cnt_zero _ h.1 z (Int.ofNat_lt.mp zl) zl, one_zero h.2⟩
theorem Kq.ak (K : Kq W W') (u : Bool) (z : Int) (h : Ak (W.wr u) (W.snd u) z) : Ak (W.wr u) (W'.snd u) z := fun l => K.ack u z (h l)
theorem Kq.le1 (K : Kq W W') (u : Bool) : mu1 W' u ≤ mu1 W u := by
  rw [mu1, mu1, K.ord, K.wr]
  cases W.ord.has u
  · exact Nat.le_refl _
  · exact Nat.add_le_add (cnt_mono (K.ak u) _) (one_le (K.ea u))
theorem Kq.le (K : Kq W W') : mu W' ≤ mu W := Nat.add_le_add (K.le1 false) (K.le1 true)
theorem Kq.lt (K : Kq W W') (hu : W.ord.has u = true) (h : (∃ z : Int, 0 ≤ z ∧ z < (W.wr u).length ∧ Mem z (W'.snd u).ack ∧ ¬ Mem z (W.snd u).ack) ∨ (W.snd u).ea = false ∧ (W'.snd u).ea = true) : mu W' < mu W := by
  have l : mu1 W' u < mu1 W u := by
    rw [mu1, mu1, K.ord, K.wr, hu]
    refine h.elim (fun ⟨z, z0, zl, b, a⟩ => ?_) fun h => Nat.add_lt_add_of_le_of_lt (cnt_mono (K.ak u) _) ?_
    · obtain ⟨z, rfl⟩ := Int.eq_ofNat_of_zero_le z0
      exact Nat.add_lt_add_of_lt_of_le (cnt_lt (K.ak u) (z := z) (fun _ => b) (fun h => a (h zl)) _ (Int.ofNat_lt.mp zl)) (one_le (K.ea u))
    · rw [one_t h.2, one_f (P := (W.snd u).ea = true) fun q => (nomatch h.1.symm.trans q)]; exact Nat.zero_lt_one
  cases u
  · exact Nat.add_lt_add_of_lt_of_le l (K.le1 true)
  · exact Nat.add_lt_add_of_le_of_lt (K.le1 false) l
theorem mu_zero (h : mu W = 0) (hu : W.ord.has u = true) : AllA (W.wr u) (W.snd u) := by
  have h := Nat.add_eq_zero_iff.mp h
  have q : mu1 W u = 0 := by cases u; exact h.1; exact h.2
  rw [mu1, hu] at q
  exact mu0_all q
theorem zero_mu (h : ∀ u, W.ord.has u = true → AllA (W.wr u) (W.snd u)) : mu W = 0 := by
  have q : ∀ u, mu1 W u = 0 := fun u => b2 (W.ord.has u) (fun c => by rw [mu1, c]; exact all_mu0 (h u c)) fun c => by rw [mu1, c]; rfl
  rw [mu, q, q]
theorem mu_le (I : WI W) : mu W ≤ 28 := by
  have q : ∀ u, mu1 W u ≤ 14 := fun u => b2 (W.ord.has u) (fun c => by rw [mu1, c]; exact Nat.add_le_add (Nat.le_trans (cnt_le _) (Int.ofNat_le.mp (I.n13 u))) one_le1) fun c => by rw [mu1, c]; exact Nat.zero_le _
  exact Nat.add_le_add (q false) (q true)
end
end
section
theorem WinN.gt {x : Win} (h : WinN x) (s : 1 ≤ x.sz) : x.usd < x.lm := by have := h.2; omega
theorem WinT.gt {x : Win} {l : Int} (h : WinT x l) (s : 1 ≤ x.sz) : x.usd < l := by rcases h with ⟨_, a, b⟩ | ⟨_, a⟩ <;> omega
theorem nil_mem {F : Fly} (h : F = []) {y : Bool × Fr × Bool} : ¬ y ∈ F := fun m => List.not_mem_nil (h ▸ m)
theorem nil_inf {F : Fly} (h : F = []) {u : Bool} {z : Int} : ¬ InF F u z := fun ⟨_, _, _, m, _⟩ => nil_mem h m
theorem nil_enf {F : Fly} (h : F = []) {u : Bool} : ¬ EndF F u := fun ⟨_, _, m⟩ => nil_mem h m
def canS (W : Wd) : Prop := ∃ u, W.ord.has u = true ∧ ¬ N0 (W.wr u) (W.snd u) (W.cl - W.cu)
noncomputable def phi (W : Wd) : Nat := 2 * mu W + one0 (canS W)
section
variable {W0 W1 W2 W3 W4 : Wd} {u : Bool}
theorem WI.acked (I : WI W0) (f : W0.fly = []) (hN : ∀ u, W0.ord.has u = true → N0 (W0.wr u) (W0.snd u) (W0.cl - W0.cu)) (u : Bool) (z : Int) (a : 0 ≤ z) (b : z < (W0.snd u).to) : Mem z (W0.snd u).ack :=
  have S := I.s u
  b2 (W0.ord.has u) (fun h => (hN u h).elim (fun c => (S.sa.rc c).1 z a (ltle b S.sa.tN)) fun c => (S.cv z a b).elim id fun m => m.elim (fun m => (c.1 ▸ m : Mem z []).elim) fun m => absurd m (nil_inf f)) fun h => absurd b (ln (let' (Int.le_of_eq (I.od u h)) a))
theorem WI.rt_ge (I : WI W0) (hs : StQ (W0.wr u) (W0.rcv u)) {t : Int} (h : ∀ z, 0 ≤ z → z < t → Mem z (W0.snd u).ack) : t ≤ (W0.rcv u).rt := nl fun c =>
  ((I.r u).ak _ (h _ (I.r u).ra.r0 c)).elim (Int.lt_irrefl _) hs.1
theorem none_can (I0 : WI W0) (f0 : W0.fly = []) (hs : ∀ v, StQ (W0.wr v) (W0.rcv v)) (K : GK W0 W1) (h1 : W1.snd = W0.snd) (h2 : W1.cu = W0.cu) (hN : ∀ u, W0.ord.has u = true → N0 (W0.wr u) (W0.snd u) (W0.cl - W0.cu)) (G : GS W1 W2) (S : Step W2 W3) (f3 : W3.fly = []) (R : RdI 50 W3 [] W4)
    (hu : W0.ord.has u = true) (hna : ¬ AllA (W0.wr u) (W0.snd u)) : ¬ N0 (W4.wr u) (W4.snd u) (W4.cl - W4.cu) := by
  have T := I0.s u
  have r := I0.r u
  have ak := I0.acked f0 hN
  have rt := fun v => I0.rt_ge (hs v) (ak v)
  have us : W0.cu ≤ W0.wi.usd := I0.cu ▸ I0.wu ▸ Int.add_le_add (rt false) (rt true)
  have tN : (W0.snd u).to < (W0.wr u).length := Int.lt_iff_le_and_ne.mpr ⟨T.sa.tN, fun e => (hN u hu).elim (fun c => hna ⟨fun z a b => (T.sa.rc c).1 z a b, (T.sa.rc c).2⟩) fun c =>
    hna ⟨fun z a b => ak u z a (e ▸ b), T.en.elim id fun m => m.elim (fun m => (nomatch (c.2.1 e).symm.trans m)) fun m => absurd m (nil_enf f0)⟩⟩
  have wi : W1.wi = W0.wi := K.wi
  have cl : W0.cu < W3.cl := by
    have c3 : W0.cl ≤ W3.cl := K.cl ▸ G.cl ▸ S.cl
    refine G.lw.elim (fun N => ?_) fun ⟨l, N, m⟩ => ?_
    · rw [wi] at N
      exact lelt us (ltle (N.gt I0.z1) (let' (nl fun c => (I0.wo c).elim (fun q => (nomatch N.1.symm.trans q)) (nil_mem f0)) c3))
    · rw [wi] at N
      exact lelt us (ltle (N.gt I0.z1) ((S.md l m).resolve_right (nil_mem f3)))
  have lm : (W0.snd u).to < (W3.snd u).lm := by
    have l3 : (W0.snd u).lm ≤ (W3.snd u).lm := h1 ▸ G.snd ▸ S.lm u
    refine b2 (W0.kno.has u) (fun hk => ?_) fun hk => ?_
    · have hr : (W0.rcv u).st = .rcg := Classical.byContradiction fun c => ln (let' (r.ra.fh c) r.hT) tN
      have us : (W0.snd u).to ≤ (W0.win u).usd := r.usd ▸ rt u
      have G' := G.lu u
      rw [K.kno, K.rcv, K.win] at G'
      exact (G' hk hr).elim (fun N => lelt us (ltle (N.gt r.s1) (let' (nl fun c => (r.ow c hr).elim (fun q => (nomatch N.1.symm.trans q)) (nil_mem f0)) l3))) fun ⟨l, N, m⟩ => lelt us (ltle (N.gt r.s1) ((S.msd u l m).resolve_right (nil_mem f3)))
    · have t := rt u
      rw [(r.un hk).1] at t
      exact lelt t (ltle (by decide) (let' T.sa.l1 l3))
  have e4 : (W4.snd u).to = (W0.snd u).to := by rw [R.snd, S.to, G.snd, h1]
  have w4 : W4.wr = W0.wr := R.wr.trans (S.wr.trans (G.wr.trans K.wr))
  have T4 := (R.inv.s u).sa
  refine fun h => h.elim (fun c => ?_) fun c => ?_
  · have := T4.op (c ▸ rfl)
    rw [e4, w4] at this
    exact Int.ne_of_lt tN this
  · have := c.2.2
    rw [e4, w4, R.snd, R.cl, R.cu, S.cu, G.cu, h2] at this
    exact ln (this tN lm) (Int.sub_pos_of_lt cl)
theorem rnd (I0 : WI W0) (f0 : W0.fly = []) (hs : ∀ v, StQ (W0.wr v) (W0.rcv v)) (K : GK W0 W1) (alt : (W1.snd = W0.snd ∧ W1.cu = W0.cu ∧ ∀ u, W0.ord.has u = true → N0 (W0.wr u) (W0.snd u) (W0.cl - W0.cu)) ∨ (∃ u lo hi e p', NdR W0 u lo hi e p' ∧ (false, Fr.st u lo hi e, true) ∈ W1.fly))
    (G : GS W1 W2) (S : Step W2 W3) (f3 : W3.fly = []) (R : RdI 50 W3 [] W4) (h4 : mu W4 ≠ 0) : phi W4 < phi W0 := by
  have Z : Kq W0 W4 := ⟨R.ord.trans (S.ord.trans (G.ord.trans K.ord)), R.wr.trans (S.wr.trans (G.wr.trans K.wr)), fun u z m => by rw [R.snd]; exact S.ack u z (by rw [G.snd, (K.snd u).1]; exact m), fun u m => by rw [R.snd]; exact S.ea u (by rw [G.snd, (K.snd u).2.1]; exact m)⟩
  refine alt.elim (fun ⟨h1, h2, hN⟩ => ?_) fun ⟨u, lo, hi, e, p', D, m⟩ => ?_
  · have ⟨u, hu, hna⟩ : ∃ u, W0.ord.has u = true ∧ ¬ AllA (W0.wr u) (W0.snd u) := Classical.byContradiction fun c => h4 (Nat.le_zero.mp (Nat.le_trans Z.le (Nat.le_of_eq (zero_mu fun u hu => Classical.byContradiction fun d => c ⟨u, hu, d⟩))))
    have c4 : canS W4 := ⟨u, Z.ord.symm ▸ hu, none_can I0 f0 hs K h1 h2 hN G S f3 R hu hna⟩
    have c0 : ¬ canS W0 := fun ⟨u, hu, c⟩ => c (hN u hu)
    rw [phi, phi, one_t c4, one_f c0]
    exact Nat.lt_succ_of_le (Nat.mul_le_mul_left 2 Z.le)
  · have C := D.ch
    have m := G.fly _ m
    have lt : mu W4 < mu W0 := Z.lt D.has (C.ne.imp (fun l => ⟨lo, C.f.lo0, ltle l C.f.hN, by rw [R.snd]; exact (S.inf u lo ⟨lo, hi, e, m, Int.le_refl _, l⟩).resolve_right (nil_inf f3), C.f.fr l⟩) fun c => ⟨c.2, by rw [R.snd]; exact (S.enf u ⟨lo, hi, c.1 ▸ m⟩).resolve_right (nil_enf f3)⟩)
    exact Nat.lt_of_le_of_lt (Nat.add_le_add_left one_le1 _) (Nat.lt_of_lt_of_le (Nat.lt_of_succ_le (Nat.mul_le_mul_left 2 lt)) (Nat.le_add_right _ _))
theorem all_over (I : WI W4) (hs : ∀ v, StQ (W4.wr v) (W4.rcv v)) (h : mu W4 = 0) (hu : W4.ord.has u = true) : ovU W4 u = true := by
  have A := mu_zero h hu
  have r := I.r u
  have t := I.rt_ge (hs u) (t := (W4.wr u).length) fun z a b => A.1 z a b
  rw [I.ov u]
  exact rc4 (W4.rcv u).st (fun c => absurd c (r.ea A.2)) (fun c => let ⟨z, a, b, _⟩ := r.ra.siz c; absurd (let' t a) (lnl b)) (fun c => absurd ⟨c, Int.le_antisymm r.ra.rN t⟩ (hs u).2) fun c => c ▸ rfl
end
end
section
section
variable {f : Slots → OO → Store → K → K → Prop} {r : Slots} {Q : K} {I : Wd → Prop}
theorem lnil {l : List D} {A : Prop} {B : D → List D → Prop → Prop} (h : l = []) (k : A) : @List.rec D (fun _ => Prop) A B l := by rw [h]; exact k
theorem lcons {l : List D} {A : Prop} {B : D → List D → Prop → Prop} (h : l ≠ []) (k : ∀ x r p, B x r p) : @List.rec D (fun _ => Prop) A B l := by
  cases l
  · exact absurd rfl h
  · exact k _ _ _
theorem wh_fly (h0 : ∀ W (k : K), I W → W.fly = [] → f r none (stOf W) k Q) (hs : ∀ W (k : K), I W → W.fly ≠ [] → (∀ W', I W' → W'.fly.length + 1 = W.fly.length → k r none (stOf W')) → f r none (stOf W) k Q) {W : Wd} (i : I W) (hl : W.fly.length < lim) : Whl f r none (stOf W) Q := by
  have go : ∀ m W, I W → W.fly.length < m → whL f m r none (stOf W) Q := fun m => Nat.rec (motive := fun m => ∀ W, I W → W.fly.length < m → whL f m r none (stOf W) Q) (fun W _ h => absurd h (Nat.not_lt_zero _))
    (fun m ih W i h => (Classical.em (W.fly = [])).elim (h0 W _ i) fun c => hs W _ i c fun W' i' e => ih W' i' (Nat.lt_of_succ_lt_succ (Nat.lt_of_le_of_lt (Nat.le_of_eq e) h))) m
  exact ⟨go lim W i hl⟩
end
section
variable {n : Nat} {W : Wd} {x1 x2 : Option V} {K' : K} {Q : V → Store → Prop}
theorem fly_nil {F : Fly} {w : Bool → List UInt8} (h : F = []) : F.map (flD w) = [] := by rw [h]; rfl
theorem fly_ne {F : Fly} {w : Bool → List UInt8} (h : F ≠ []) : F.map (flD w) ≠ [] := fun c => h (List.map_eq_nil_iff.mp c)
noncomputable def whS (x : Option Mine.S) (P : E → List Mine.S → Prop) : Prop := x.casesOn False fun x => S.casesOn x False (fun _ _ => False) (fun _ _ => False) (fun _ _ => False) (fun _ _ _ => False) (fun _ _ => False) (fun _ _ => False) (fun _ => False) (fun _ _ _ => False) (fun _ _ _ _ _ => False) P (fun _ => False) False (fun _ => False) (fun _ => False) (fun _ _ => False) (fun _ _ => False) (fun _ _ _ => False) False (fun _ => False) fun _ _ _ _ _ _ _ => False
theorem wh_arr (I : WI W) (hb : W.log + 2 * W.fly.length ≤ 100000) (k : ∀ W', WI W' → Step W W' → W'.fly = [] → W'.log ≤ W.log + 2 * W.fly.length → K' [some (.loc (cb W'.ord + 39)), x1, x2] none (stOf W')) :
    whS (forB f__law_ends_well.body[0]?)[1]? fun c b => Whl (whF (wE (callF (n + 7)) c) (wB (callF (n + 7)) b) Q) [some (.loc (cb W.ord + 39)), x1, x2] none (stOf W) K' :=
  wh_fly (I := fun W' => WI W' ∧ Step W W' ∧ W'.log + 2 * W'.fly.length ≤ W.log + 2 * W.fly.length) (fun W' _ i h => by
      rw [← i.2.1.ord]
      exact ons look_w (lnil (fly_nil h) (k W' i.1 i.2.1 h (Nat.le_trans (Nat.le_add_right _ _) i.2.2))))
    (fun W' K i h hK => by
      rw [← i.2.1.ord] at hK ⊢
      exact ons look_w (lcons (fly_ne h) fun _ _ _ => l_arr (n := n) (i := 0) (kept := false) i.1 (Nat.le_trans i.2.2 hb) (List.length_pos_iff.mpr h) fun W2 J S e1 e2 =>
        hK W2 ⟨J, i.2.1.trans S, Nat.le_trans (by have e2 : W2.fly.length + 1 = W'.fly.length := e2; omega) i.2.2⟩ e2))
    ⟨I, .refl W, Nat.le_refl _⟩ (Nat.lt_of_le_of_lt (by omega : W.fly.length ≤ 100000) (by decide))
end
end
section
section
variable {n : Nat} {W : Wd} {x1 x2 : Option V} {K' : K} {Q : V → Store → Prop}
theorem filt_nil {o : Od} {g : Bool → Option D} (h : ∀ u, o.has u = true → g u = none) : (ol o).filterMap g = [] := List.filterMap_eq_nil_iff.mpr fun u m => h u (ol_has m)
theorem chk_over (k1 : Q (.d (.bool true)) (stOf W)) (k2 : (¬ ∀ u, W.ord.has u = true → ovU W u = true) → K' [some (.loc (cb W.ord + 39)), x1, x2] none (stOf W)) (hx : x2 = none) :
    wB (callF n) ((forB f__law_ends_well.body[0]?).drop 3) [some (.loc (cb W.ord + 39)), x1, x2] none (stOf W) K' Q := by
  subst hx
  refine ons look_w (comp_keys (v := fun u => .d (.bytes (W.wr u))) (o := W.ord) (R := fun u x => ovU W u = true ∧ x = none ∨ ovU W u = false ∧ x = some (.int (sid u))) rfl (fun u hu K hK => ons L_w (ons L_ov (ons L_ov (vof get_ov (brE (fun h => hK _ (.inl ⟨h, rfl⟩)) fun h => hK _ (.inr ⟨h, rfl⟩)))))) fun g hg => ?_)
  exact (Classical.em ((ol W.ord).filterMap g = [])).elim (fun c => lnil c k1) fun c => lcons c fun _ _ _ => k2 fun h => c (filt_nil fun u hu => (hg u hu).elim And.right fun q => nomatch (h u hu).symm.trans q.1)
structure RndR (W W' : Wd) : Prop where
  inv : WI W'
  ord : W'.ord = W.ord
  fly : W'.fly = []
  set : ∀ v, StQ (W'.wr v) (W'.rcv v)
  log : W'.log ≤ W.log + 2 * W.fly.length + 16
  mu : mu W' ≠ 0
  phi : W.fly = [] → (∀ v, StQ (W.wr v) (W.rcv v)) → phi W' < phi W
theorem bnd3 {a b c l x y z : Nat} (h1 : x ≤ l + 4) (h2 : y ≤ x + 4) (h3 : z ≤ a + 2 * y) : z ≤ a + 2 * l + 16 ∧ (a + 2 * l + 16 ≤ b → a + 2 * y ≤ b) ∧ (a + 2 * l + 16 ≤ 100000 → l ≤ 100000 ∧ x ≤ 100000) := by omega
theorem round (I : WI W) (hb : W.log + 2 * W.fly.length + 16 ≤ 100000) (k1 : ∀ s, Q (.d (.bool true)) s) (hx : x2 = none) (k2 : ∀ W' x1, RndR W W' → K' [some (.loc (cb W.ord + 39)), x1, none] none (stOf W')) (a : Int) :
    forF (wB (callF (n + 9)) (forB f__law_ends_well.body[0]?)) [1] false Q (.int a) [some (.loc (cb W.ord + 39)), x1, x2] none (stOf W) K' := by
  subst hx
  have fl := (bnd3 (b := 0) (c := 0) (x := W.fly.length) (y := W.fly.length) (a := W.log) (z := W.log) (Nat.le_add_right W.fly.length 4) (Nat.le_add_right _ 4) (Nat.le_add_right _ _)).2.2 hb
  refine l_goes0 I fl.1 (by decide) (by decide) fun W1 I1 K1 alt => ?_
  rw [← K1.ord]
  have b1 := bnd3 (b := 100000) (c := 0) (y := W1.fly.length) (a := W.log) (z := W.log) K1.len (Nat.le_add_right _ 4) (Nat.le_add_right _ _)
  refine l_goes1 I1 (b1.2.2 hb).2 (by decide) (by decide) fun W2 I2 G => ?_
  rw [← G.ord]
  have b2 := bnd3 (b := 100000) (c := 0) (a := W.log) (z := W.log) K1.len G.len (Nat.le_add_right _ _)
  have e2 : W2.log = W.log := G.log.trans K1.log
  refine wh_arr (n := n + 2) I2 (by rw [e2]; exact b2.2.1 hb) fun W3 I3 S f3 l3 => ?_
  refine l_reads (n := n + 5) I3 (by decide) fun W4 R => ?_
  rw [← R.ord]
  have st := fun v => (R.set (by decide) v).resolve_left List.not_mem_nil
  refine chk_over (k1 _) (fun c => ?_) rfl
  have o4 : W4.ord = W.ord := R.ord.trans (S.ord.trans (G.ord.trans K1.ord))
  have m4 : mu W4 ≠ 0 := fun z => c fun u hu => all_over R.inv st z hu
  rw [o4]
  exact k2 W4 _ ⟨R.inv, o4, R.fly.trans f3, st, by rw [R.log]; rw [e2] at l3; exact (bnd3 (b := 0) (c := 0) K1.len G.len l3).1, m4, fun f0 s0 => rnd I f0 s0 K1 alt G S f3 R m4⟩
theorem rounds (k1 : ∀ s, Q (.d (.bool true)) s) (k : Nat) : ∀ (W : Wd) (a : Int) (x1 : Option V), WI W → W.fly = [] → (∀ v, StQ (W.wr v) (W.rcv v)) → W.log + 16 * k ≤ 100000 → phi W < k →
    For (forF (wB (callF (n + 9)) (forB f__law_ends_well.body[0]?)) [1] false Q) (rngL a k) [some (.loc (cb W.ord + 39)), x1, none] none (stOf W) K' :=
  Nat.rec (motive := fun k => ∀ (W : Wd) (a : Int) (x1 : Option V), WI W → W.fly = [] → (∀ v, StQ (W.wr v) (W.rcv v)) → W.log + 16 * k ≤ 100000 → phi W < k → For (forF (wB (callF (n + 9)) (forB f__law_ends_well.body[0]?)) [1] false Q) (rngL a k) [some (.loc (cb W.ord + 39)), x1, none] none (stOf W) K')
    (fun _ _ _ _ _ _ _ h => absurd h (Nat.not_lt_zero _)) (fun k ih W a x1 I f s l h => ⟨round I (by rw [f]; show W.log + 16 ≤ _; omega) k1 rfl (fun W' x1 R => by
      rw [← R.ord]
      refine (ih W' (a + 1) x1 R.inv R.fly R.set ?_ (Nat.lt_of_lt_of_le (R.phi f s) (Nat.le_of_lt_succ h))).h
      have := R.log
      rw [f] at this
      have : W'.log ≤ W.log + 16 := this
      omega) a⟩) k
theorem ends_well (I : WI W) (hf : W.fly = []) (hb : W.log ≤ 90000) (k1 : ∀ s, Q (.d (.bool true)) s) : Call (callF (n + 10)) .x_law .x__law_ends_well [.loc (cb W.ord + 39)] (stOf W) Q :=
  ⟨⟨⟨by decide, by decide⟩, ⟨round I (by rw [hf]; exact Nat.le_trans (Nat.add_le_add_right hb 16) (by decide)) k1 rfl (fun W' x1 R => by
    rw [← R.ord]
    refine (rounds k1 59 W' 1 x1 R.inv R.fly R.set ?_ (Nat.lt_of_le_of_lt (Nat.add_le_add (Nat.mul_le_mul_left 2 (mu_le R.inv)) one_le1) (by decide))).h
    have := R.log
    rw [hf] at this
    exact Nat.le_trans (Nat.add_le_add_right (Nat.le_trans this (Nat.add_le_add_right hb 16)) _) (by decide)) 0⟩⟩⟩
end
end
section
structure PO (a i : Int) (sc : List Int) : Prop where
  a0 : 0 ≤ a
  a1 : a < 2147483647
  i0 : 0 ≤ i
  sc : sc.length ≤ 1000
structure ParOK (p : Par) : Prop where
  m0 : 5 ≤ p.md
  m1 : p.md ≤ 16
  l0 : 3 ≤ p.bl
  l1 : p.bl ≤ 11
  r0 : 3 ≤ p.br
  r1 : p.br ≤ 11
  u0 : 3 ≤ p.un
  u1 : p.un ≤ 11
section
variable {n : Nat} {a i many : Int} {sc : List Int} {T : Store} {Q : V → Store → Prop}
theorem drawC (P : PO a i sc) (hm : 0 < many) (k : ∀ d a' i', 0 ≤ d → d < many → PO a' i' sc → Q (.d (.int d)) (poolC a' sc i' :: T)) : Call (callF (n + 1)) .x_law .x__law_draw [.loc 0, .d (.int many)] (poolC a sc i :: T) Q :=
  draw (s := poolC a sc i :: T) rfl P.sc P.a0 P.a1 hm fun d a' d0 d1 a0 a1 => k d a' (i + 1) d0 d1 ⟨a0, a1, Int.le_add_one P.i0, P.sc⟩
theorem pa0 {a b : Int} (h : 0 ≤ b) : a ≤ a + b := Int.le_add_of_nonneg_right h
theorem pa1 {a b c : Int} (h : b < c) : a + b ≤ a + (c - 1) := Int.add_le_add_left (Int.le_sub_one_of_lt h) a
theorem params (o : Option Cell) (P : PO a i sc) (k : ∀ p a' i', ParOK p → PO a' i' sc → Q (.loc (o.toList.length + 1)) (poolC a' sc i' :: (o.toList ++ [parC p]))) : Call (callF (n + 2)) .x_law .x__law_params [.loc 0] (poolC a sc i :: o.toList) Q := by
  cases o <;> exact ⟨drawC P (by decide) fun d1 a1 i1 d10 d11 P1 => ⟨drawC P1 (by decide) fun d2 a2 i2 d20 d21 P2 => ⟨(by decide : 3 ≤ lim), drawC P2 (by decide) fun d3 a3 i3 d30 d31 P3 => ⟨(by decide : 4 ≤ lim), drawC P3 (by decide) fun d4 a4 i4 d40 d41 P4 => ⟨(by decide : 5 ≤ lim), k ⟨5 + d1, 3 + d2, 3 + d3, 3 + d4⟩ a4 i4 ⟨pa0 d10, pa1 d11, pa0 d20, pa1 d21, pa0 d30, pa1 d31, pa0 d40, pa1 d41⟩ P4⟩⟩⟩⟩⟩
end
end
section
noncomputable def idsL (v : Bool) (c : Nat) : List Cell := [idsC v c, twoC 0 0, twoC 1 1, twoC 0 0, twoC 0 0, twoC 0 0, twoC 1 1]
noncomputable def hostC (v : Bool) (a : Nat) (peer : V) (c : Nat) : Cell := .inst .x_StreamSet [(.x_role, .d (.str (role v))), (.x_params, .loc a), (.x_peer, peer), (.x_ids, .loc c), (.x_credit, .loc (c + 7)), (.x_window, .loc (c + 8)), (.x_senders, .loc (c + 9)), (.x_readers, .loc (c + 10)), (.x_windows, .loc (c + 11)),
  (.x_owed, .d (.lst [])), (.x_blocked_at, .loc (c + 12)), (.x_events, .loc (c + 13)), (.x_over, .loc (c + 14)), (.x_turn, .d (.int 0))]
noncomputable def hostL (v : Bool) (c : Nat) (x cl md : Int) : List Cell := [idsC v c, twoC x x, twoC 1 1, twoC 0 0, twoC 0 0, twoC 0 0, twoC 1 1, crC cl 0 none, winW (win0 md), .dict [], .dict [], .dict [], .dict [], .log 0, .dict []]
section
variable {pre tl tl' l : List Cell} {x y : Cell} {L a : Nat} {P : PV} {v : V}
theorem at_mid : (pre ++ x :: tl)[pre.length]? = some x := by rw [List.getElem?_append_right (Nat.le_refl _), Nat.sub_self]; rfl
theorem set_mid : (pre ++ x :: tl).set pre.length y = pre ++ y :: tl := by rw [List.set_append_right _ _ (Nat.le_refl _), Nat.sub_self]; rfl
theorem gpre (h : pre[a]? = some x) : (pre ++ l)[a]? = some x := by rw [List.getElem?_append_left (List.getElem?_eq_some_iff.mp h).1]; exact h
theorem app (k : P v (pre ++ x :: (tl ++ l))) : P v ((pre ++ x :: tl) ++ l) := by rw [List.append_assoc]; exact k
theorem len_mid (hL : pre.length = L) : (pre ++ x :: tl).length = L + (tl.length + 1) := by rw [List.length_append, hL]; rfl
theorem al (hL : pre.length = L) (k : P (.loc (L + (tl.length + 1))) (pre ++ x :: (tl ++ [y]))) : P (.loc (pre ++ x :: tl).length) ((pre ++ x :: tl) ++ [y]) := by rw [len_mid hL]; exact app k
theorem self_c {cf : CF} {c m : N} {e : E} {rest : List Mine.S} {r : Slots} {o : OO} {fl : List (N × V)} {K' : K} {R : PV} (hE : ∀ P : PV, P v (pre ++ .inst c fl :: tl') → wE cf e r (pre ++ .inst c fl :: tl) P) (hk : keysIn m (attrsOf c) = true) (h0 : slotOf r 0 = some (.loc pre.length))
    (k : wB cf rest r o (pre ++ .inst c (putN m v fl) :: tl') K' R) : wB cf (.asg (.attr (.var 0) m) e :: rest) r o (pre ++ .inst c fl :: tl) K' R := by
  refine hE _ ?_
  show onS (slotOf r 0) _
  rw [h0]
  refine ons at_mid ?_
  show ifT (keysIn m (attrsOf c)) _
  rw [hk]
  show wB cf rest r o ((pre ++ _ :: tl').set pre.length _) K' R
  rw [set_mid]; exact k
end
section
variable {n L a : Nat} {s : Store} {P : PV} {p : Par} {v : Bool}
theorem two2 : 2 ≤ lim := by decide
theorem ids_new (hL : s.length = L) (k : P (.loc L) (s ++ idsL v L)) :
    Call (callF (n + 1)) .x_StreamIds .x___init__ [.loc s.length, .d (.str (role v)), .d (.lst [.int 0, .int 0]), .d (.lst [.int 1, .int 1])] (s ++ [.inst .x_StreamIds []]) (kNew2 s.length P) := by
  have k : kNew2 s.length P (.d .none) (s ++ idsL v L) := hL.symm ▸ k
  exact ⟨self_c (fun _ k => k) rfl rfl (self_c (fun _ k => ⟨two2, al hL k⟩) rfl rfl (self_c (fun _ k => ⟨two2, al hL k⟩) rfl rfl (self_c (fun _ k => al hL k) rfl rfl (self_c (fun _ k => al hL k) rfl rfl (self_c (fun _ k => al hL k) rfl rfl (self_c (fun _ k => ⟨two2, al hL k⟩) rfl rfl k))))))⟩
theorem cr_new (hL : s.length = L) (k : P (.loc L) (s ++ [crC 0 0 none])) : Call (callF (n + 1)) .x_Credit .x___init__ [.loc s.length, .d (.int 0)] (s ++ [.inst .x_Credit []]) (kNew2 s.length P) := by
  have k : kNew2 s.length P (.d .none) (s ++ [crC 0 0 none]) := hL.symm ▸ k
  exact ⟨self_b (fun _ k => k) rfl rfl (self_b (fun _ k => k) rfl rfl (self_b (fun _ k => k) rfl rfl k))⟩
theorem set_new (hp : s[a]? = some (parC p)) (hL : s.length = L) (k : P (.loc L) (s ++ hostC v a (.d .none) (L + 1) :: hostL v (L + 1) 0 0 p.md)) :
    Call (callF (n + 2)) .x_StreamSet .x___init__ [.loc s.length, .d (.str (role v)), .loc a] (s ++ [.inst .x_StreamSet []]) (kNew2 s.length P) := by
  have k : kNew2 s.length P (.d .none) (s ++ hostC v a (.d .none) (L + 1) :: hostL v (L + 1) 0 0 p.md) := hL.symm ▸ k
  exact ⟨self_c (fun _ k => k) rfl rfl (self_c (fun _ k => k) rfl rfl (self_c (fun _ k => k) rfl rfl (self_c (fun _ k => ons (gpre hp) (ons (gpre hp) (ids_new (len_mid hL) (app k)))) rfl rfl (self_c (fun _ k => cr_new (len_mid hL) (app k)) rfl rfl (self_c (fun _ k => ons (gpre hp) (kn_win (len_mid hL) (app k))) rfl rfl
    (self_c (fun _ k => al hL k) rfl rfl (self_c (fun _ k => al hL k) rfl rfl (self_c (fun _ k => al hL k) rfl rfl (self_c (fun _ k => k) rfl rfl (self_c (fun _ k => al hL k) rfl rfl (self_c (fun _ k => al hL k) rfl rfl (self_c (fun _ k => al hL k) rfl rfl (self_c (fun _ k => k) rfl rfl k)))))))))))))⟩
end
end
section
noncomputable def hosA (v : Bool) (a : Nat) (peer : V) (c : Nat) (x cl md : Int) (T : List Cell) : List Cell := hostC v a peer c :: idsC v c :: twoC x x :: twoC 1 1 :: twoC 0 0 :: twoC 0 0 :: twoC 0 0 :: twoC 1 1 :: crC cl 0 none :: winW (win0 md) :: .dict [] :: .dict [] :: .dict [] :: .dict [] :: .log 0 :: .dict [] :: T
noncomputable def stA (c0 : Cell) (p0 p1 : Par) (b0 b1 : V) (x0 x1 cl0 cl1 : Int) (T : List Cell) : Store := c0 :: parC p0 :: parC p1 :: .lst [.loc 1, .loc 2] :: hosA false 1 b0 5 x0 cl0 p0.md (hosA true 2 b1 21 x1 cl1 p1.md (.lst [.loc 4, .loc 20] :: T))
section
variable {n i c : Nat} {s : Store} {c0 : Cell} {p0 p1 : Par} {v : Bool} {b0 b1 : V} {m x0 x1 cl0 cl1 : Int} {Q : V → Store → Prop} {T : List Cell}
theorem cr_up (h : s[i]? = some (crC 0 0 none)) (hm : 0 ≤ m) (k : ∀ b, Q (.d (.bool b)) (s.set i (crC m 0 none))) : Call (callF (n + 1)) .x_Credit .x_raise_to [.loc i, .d (.int m)] s Q := cr_raise h fun b => by rw [Int.max_eq_right hm]; exact k b
theorem bi0 : (0 : Int) ≤ 0 ∧ (0 : Int) < 2 ∧ (0 : Int) < 1000000 := by decide
theorem bi1 : (0 : Int) ≤ 1 ∧ (1 : Int) < 2 ∧ (1 : Int) < 1000000 := by decide
theorem ids_up0 (h : s[i]? = some (idsC v c)) (ho : s[c + 1]? = some (twoC 0 0)) (k : Q (.d .none) (s.set (c + 1) (twoC 1 0))) : Call (callF (n + 1)) .x_StreamIds .x_raise_limit [.loc i, .d (.bool false), .d (.int 1)] s Q :=
  ⟨ons h (ons ho ⟨i0, ons h (ons ho ⟨bi0, k⟩)⟩)⟩
theorem ids_up1 (h : s[i]? = some (idsC v c)) (ho : s[c + 1]? = some (twoC 1 0)) (k : Q (.d .none) (s.set (c + 1) (twoC 1 1))) : Call (callF (n + 1)) .x_StreamIds .x_raise_limit [.loc i, .d (.bool true), .d (.int 1)] s Q :=
  ⟨ons h (ons ho ⟨i1, ons h (ons ho ⟨bi1, k⟩)⟩)⟩
theorem on_par0 (hm : 0 ≤ p1.md) (k : Q (.d .none) (stA c0 p0 p1 (.loc 2) b1 1 x1 p1.md cl1 T)) : Call (callF (n + 2)) .x_StreamSet .x_on_params [.loc 4, .loc 2] (stA c0 p0 p1 (.d .none) b1 0 x1 0 cl1 T) Q :=
  ⟨cr_up rfl hm fun _ => ids_up0 (v := false) (c := 5) rfl rfl (ids_up1 (v := false) (c := 5) rfl rfl ⟨k⟩)⟩
theorem on_par1 (hm : 0 ≤ p0.md) (k : Q (.d .none) (stA c0 p0 p1 b0 (.loc 1) x0 1 cl0 p0.md T)) : Call (callF (n + 2)) .x_StreamSet .x_on_params [.loc 20, .loc 1] (stA c0 p0 p1 b0 (.d .none) x0 0 cl0 0 T) Q :=
  ⟨cr_up rfl hm fun _ => ids_up0 (v := true) (c := 21) rfl rfl (ids_up1 (v := true) (c := 21) rfl rfl ⟨k⟩)⟩
end
end
section
noncomputable def stB (c0 : Cell) (p0 p1 : Par) (y0 y1 : Int) (S R X wr lm : List (Key × V)) (T : List Cell) : Store :=
  c0 :: parC p0 :: parC p1 :: .lst [.loc 1, .loc 2] :: hostC false 1 (.loc 2) 5 :: idsC false 5 :: twoC 1 1 :: twoC 1 1 :: twoC y0 y1 :: twoC 0 0 :: twoC 0 0 :: twoC 1 1 :: crC p1.md 0 none :: winW (win0 p0.md) :: .dict S :: .dict R :: .dict X :: .dict [] :: .log 0 :: .dict [] ::
  hosA true 2 (.loc 1) 21 1 p0.md p1.md (.lst [.loc 4, .loc 20] :: .dict wr :: .dict lm :: T)
section
variable {n L : Nat} {c0 : Cell} {p0 p1 : Par} {y : Int} {S R X wr lm : List (Key × V)} {T : List Cell} {Q : V → Store → Prop}
theorem open_f0 (hL : T.length + 39 = L) (hS : S.length ≤ lim) (hR : R.length ≤ lim) (hX : X.length ≤ lim)
    (k : Q (.d (.int 0)) (stB c0 p0 p1 1 y (putK (.i 0) (.loc L) S) (putK (.i 0) (.loc (L + 1)) R) (putK (.i 0) (.loc (L + 2)) X) wr lm (T ++ [sndC [] false (snd0 p1.br)] ++ [rcC [] p0.bl rcv0] ++ [winW (win0 p0.bl)]))) :
    Call (callF (n + 4)) .x_StreamSet .x_open_stream [.loc 4, .d (.bool false)] (stB c0 p0 p1 0 y S R X wr lm T) Q := by
  have l1 : ∀ {a b : Cell}, ((stB c0 p0 p1 1 y S R X wr lm T ++ [a]).set 14 b).length = L + 1 := by intros; rw [List.length_set, List.length_append]; exact congrArg (· + 1) hL
  have l2 : ∀ {a b c d : Cell}, ((((stB c0 p0 p1 1 y S R X wr lm T ++ [a]).set 14 b ++ [c]).set 15 d)).length = L + 2 := by intros; rw [List.length_set, List.length_append]; exact congrArg (· + 1) l1
  have hL : (stB c0 p0 p1 1 y S R X wr lm T).length = L := hL
  have mk : Call (callF (n + 3)) .x_StreamSet .x_make_parts [.loc 4, .d (.int 0)] (stB c0 p0 p1 1 y S R X wr lm T) fun _ s => Q (.d (.int 0)) s :=
    ⟨⟨⟨by decide, by decide, ⟨⟨⟨by decide, by decide, ⟨by decide, kn_snd hL ⟨hS, ⟨⟨by decide, by decide, ⟨⟨by decide, by decide, ⟨by decide, kn_rcv [] l1 ⟨hR, kn_win l2 ⟨hX, k⟩⟩⟩⟩⟩⟩⟩⟩⟩⟩⟩⟩⟩⟩⟩
  exact ⟨⟨i0, i0, i0, (by decide : (0 : Int) < 2), i0, ⟨by decide, mk⟩⟩⟩
theorem open_t0 (hL : T.length + 39 = L) (hS : S.length ≤ lim) (k : Q (.d (.int 2)) (stB c0 p0 p1 y 1 (putK (.i 2) (.loc L) S) R X wr lm (T ++ [sndC [] false (snd0 p1.un)]))) :
    Call (callF (n + 4)) .x_StreamSet .x_open_stream [.loc 4, .d (.bool true)] (stB c0 p0 p1 y 0 S R X wr lm T) Q := by
  have hL : (stB c0 p0 p1 y 1 S R X wr lm T).length = L := hL
  have mk : Call (callF (n + 3)) .x_StreamSet .x_make_parts [.loc 4, .d (.int 2)] (stB c0 p0 p1 y 1 S R X wr lm T) fun _ s => Q (.d (.int 2)) s :=
    ⟨⟨⟨by decide, by decide, ⟨by decide, ⟨⟨by decide, by decide, kn_snd hL ⟨hS, ⟨⟨by decide, by decide, ⟨by decide, k⟩⟩⟩⟩⟩⟩⟩⟩⟩⟩
  exact ⟨⟨i1, i1, i1, (by decide : (1 : Int) < 2), i1, ⟨by decide, mk⟩⟩⟩
theorem write {i : Nat} {s : Store} {w : List UInt8} {p : SndP} (h : s[i]? = some (sndC [] false p)) (hp : p.st = .rdy) (hw : w.length ≤ lim) (k : Q (.d .none) (s.set i (sndC w false p))) : Call (callF (n + 1)) .x_SendPart .x_write [.loc i, .d (.bytes w)] s Q := by
  refine ⟨ons (snd_st h hp) (ons h (ons h ⟨?_, ons h k⟩))⟩
  rw [List.length_nil, Nat.zero_add]; exact hw
theorem finish {i : Nat} {s : Store} {w : List UInt8} {p : SndP} (h : s[i]? = some (sndC w false p)) (hp : p.st = .rdy) (k : Q (.d .none) (s.set i (sndC w true { p with oe := true }))) : Call (callF (n + 1)) .x_SendPart .x_finish [.loc i] s Q :=
  ⟨ons (snd_st h hp) (ons h (ons h (ons (gs_self h) (q_set (Q := Q _) k))))⟩
end
end
section
section
variable {sc : List Int} {T : Store}
theorem asInts_map (l : List Int) : asInts (l.map .int) = some l := List.rec (motive := fun l => asInts (l.map .int) = some l) rfl (fun a r h => by show (asInts (r.map .int)).map (a :: ·) = _; rw [h]; rfl) l
theorem toB_ok : ∀ {l : List Int}, (∀ z ∈ l, 0 ≤ z ∧ z < 256) → ∃ b, toB l = some b ∧ b.length = l.length
  | [], _ => ⟨[], rfl, rfl⟩
  | a :: r, h => by
    obtain ⟨b, e, q⟩ := toB_ok fun z m => h z (.tail _ m)
    exact ⟨a.toNat.toUInt8 :: b, by rw [toB, if_pos (h a (.head _)), e]; rfl, congrArg Nat.succ q⟩
theorem rngK_len (k : Nat) : ∀ x, (rngL x k).length = k := Nat.rec (motive := fun k => ∀ x, (rngL x k).length = k) (fun _ => rfl) (fun _ h x => congrArg Nat.succ (h (x + 1))) k
theorem cmp_draws {f : D → Store → (Option D → Store → Prop) → Prop} (hf : ∀ d a i, PO a i sc → ∀ K : Option D → Store → Prop, (∀ z a' i', 0 ≤ z → z < 256 → PO a' i' sc → K (some (.int z)) (poolC a' sc i' :: T)) → f d (poolC a sc i :: T) K) (k : Nat) :
    ∀ x a i (P : List D → Store → Prop), PO a i sc → (∀ (l : List Int) a' i', l.length = k → (∀ z ∈ l, 0 ≤ z ∧ z < 256) → PO a' i' sc → P (l.map .int) (poolC a' sc i' :: T)) → compL f (rngL x k) (poolC a sc i :: T) P :=
  Nat.rec (motive := fun k => ∀ x a i (P : List D → Store → Prop), PO a i sc → (∀ (l : List Int) a' i', l.length = k → (∀ z ∈ l, 0 ≤ z ∧ z < 256) → PO a' i' sc → P (l.map .int) (poolC a' sc i' :: T)) → compL f (rngL x k) (poolC a sc i :: T) P)
    (fun x a i P p k => k [] a i rfl nm p) (fun m ih x a i P p k => hf _ a i p _ fun z a' i' z0 z1 p' => ih (x + 1) a' i' _ p' fun l a' i' hl hz p' => k (z :: l) a' i' (congrArg Nat.succ hl) (fun y m => (List.mem_cons.mp m).elim (fun e => e ▸ ⟨z0, z1⟩) (hz y)) p') k
end
section
variable {n m : Nat} {a i y0 y1 : Int} {sc : List Int} {p0 p1 : Par} {S R X wr lm : List (Key × V)} {T : List Cell} {Q : V → Store → Prop} {K' : K} {u : Bool} {p : SndP} {x3 x6 x8 : Option V}
theorem fill (hS : lookK (.i (sid u)) S = some (.loc (m + 39))) (hT : T[m]? = some (sndC [] false p)) (hp : p.st = .rdy) (h1 : wr.length ≤ lim) (h2 : lm.length ≤ lim) (P : PO a i sc)
    (k : ∀ w a' i' x8, w.length ≤ 13 → PO a' i' sc → K' [some (.loc 0), some (.loc 3), some (.loc 36), x3, some (.loc 37), some (.loc 38), x6, some (.d (.int (sid u))), x8, none] none (stB (poolC a' sc i') p0 p1 y0 y1 S R X (putK (.i (sid u)) (.d (.bytes w)) wr) (putK (.i (sid u)) (.d (.int (owW p1 u))) lm) (T.set m (sndC w true { p with oe := true })))) :
    wB (callF (n + 2)) ((forB f__law_world.body[5]?).drop 2) [some (.loc 0), some (.loc 3), some (.loc 36), x3, some (.loc 37), some (.loc 38), x6, some (.d (.int (sid u))), x8, none] none (stB (poolC a sc i) p0 p1 y0 y1 S R X wr lm T) K' Q := by
  refine drawC (n := n + 1) P (by decide) fun d a1 i1' d0 d1 P1 => ⟨⟨ltle (by decide) d0, ltt d1 (by decide)⟩, by rw [rngK_len]; exact Int.toNat_le.mpr (lle (ltt d1 (by decide))), ⟨cmp_draws (fun d a i P K hK => drawC (n := n + 1) P (by decide) hK) d.toNat 0 a1 i1' _ P1 fun l a2 i2 hl hz P2 => ?_⟩⟩
  obtain ⟨w, e, q⟩ := toB_ok hz
  have h13 : l.length ≤ 13 := hl ▸ Int.toNat_le.mpr (Int.le_of_lt_add_one d1)
  have k := fun x8 => k w a2 i2 x8 (q ▸ h13) P2
  have hw : w.length ≤ lim := lm100 (q ▸ Nat.le_trans h13 (by decide))
  refine ⟨(List.length_map (as := l) D.int).symm ▸ Nat.le_trans h13 (by decide), ons (asInts_map l) (ons e ⟨h1, ?_⟩)⟩
  have g : ∀ {w : List UInt8} {f : Bool} {p : SndP} {wr lm : List (Key × V)} {T : List Cell}, T[m]? = some (sndC w f p) → (stB (poolC a2 sc i2) p0 p1 y0 y1 S R X wr lm T)[m + 39]? = some (sndC w f p) := id
  have ins : (lookK (.i (sid u)) S).isSome = true := by rw [hS]; rfl
  have fin : wB (callF (n + 2)) ((forB f__law_world.body[5]?).drop 5) [some (.loc 0), some (.loc 3), some (.loc 36), x3, some (.loc 37), some (.loc 38), x6, some (.d (.int (sid u))), some (.d (.bytes w)), none] none (stB (poolC a2 sc i2) p0 p1 y0 y1 S R X (putK (.i (sid u)) (.d (.bytes w)) wr) (putK (.i (sid u)) (.d (.int (owW p1 u))) lm) T) K' Q := by
    refine ⟨i0, ⟨brx ins (ons hS (ons (g hT) (write (g hT) hp hw ⟨i0, ⟨brx ins (ons hS (ons (g (gs_self hT)) (finish (g (gs_self hT)) hp ?_)))⟩⟩)))⟩⟩
    have k := k (some (.d (.bytes w)))
    rw [← List.set_set (a := sndC w false p)] at k
    exact k
  cases u
  · exact ⟨i1, by decide, h2, fin⟩
  · exact ⟨i1, by decide, h2, fin⟩
end
end
section
noncomputable def wd0 (a i : Int) (sc : List Int) (p0 p1 : Par) (o : Od) (w : Bool → List UInt8) : Wd :=
  ⟨a, sc, i, p0, p1, 0, o, w, p1.md, 0, none, fun u => ⟨owW p1 u, 0, .rdy, [], [], true, false⟩, .n, fun _ => 0, .n, owW p1, fun _ => rcv0, fun u => win0 (owW p1 u), win0 p1.md, 0, p1.md, owW p1, .n, fun _ => 0, .n, fun _ => 0, .n, fun _ => false, []⟩
section
variable {n : Nat} {a i : Int} {sc : List Int} {p0 p1 : Par} {o : Od} {w : Bool → List UInt8} {Q : V → Store → Prop} {K' : K} {x3 x6 x7 x8 x9 : Option V}
theorem world_end (k : Q (.loc (cb o + 39)) (stOf (wd0 a i sc p0 p1 o w))) : wB (callF n) (f__law_world.body.drop 6) [some (.loc 0), some (.loc 3), some (.loc 36), x3, some (.loc 37), some (.loc 38), x6, x7, x8, x9] none (stP (wd0 a i sc p0 p1 o w) (cliL (wd0 a i sc p0 p1 o w))) K' Q := by
  cases o <;> exact k
theorem world_head (P : PO a i sc) (k : ∀ p0 p1 a i, ParOK p0 → ParOK p1 → PO a i sc → wB (callF (n + 4)) (f__law_world.body.drop 5) [some (.loc 0), some (.loc 3), some (.loc 36), none, some (.loc 37), some (.loc 38), none, none, none, none] none (stB (poolC a sc i) p0 p1 0 0 [] [] [] [] [(.s .x_all, .d (.int p1.md))] []) (kEnd Q) Q) :
    Call (callF (n + 5)) .x_law .x__law_world [.loc 0] [poolC a sc i] Q := by
  refine ⟨params (n := n + 2) none P fun p0 a1 i1' h0 P1 => params (n := n + 2) (some (parC p0)) P1 fun p1 a2 i2 h1 P2 => ⟨i0, set_new (n := n + 2) (s := [poolC a2 sc i2, parC p0, parC p1, .lst [.loc 1, .loc 2]]) (v := false) (a := 1) (p := p0) rfl rfl ⟨i1, set_new (n := n + 2) (s := [poolC a2 sc i2, parC p0, parC p1, .lst [.loc 1, .loc 2]] ++ hostC false 1 (.d .none) 5 :: hostL false 5 0 0 p0.md) (v := true) (a := 2) (p := p1) rfl rfl ⟨i0, ⟨i1, ?_⟩⟩⟩⟩⟩
  exact on_par0 (n := n + 2) (c0 := poolC a2 sc i2) (p0 := p0) (p1 := p1) (b1 := .d .none) (x1 := 0) (cl1 := 0) (T := []) (let' (by decide) h1.m0) ⟨i1, ⟨i0, on_par1 (n := n + 2) (c0 := poolC a2 sc i2) (p0 := p0) (p1 := p1) (b0 := .loc 2) (x0 := 1) (cl0 := p1.md) (T := []) (let' (by decide) h0.m0) ⟨i1, k p0 p1 a2 i2 h0 h1 P2⟩⟩⟩
end
end
section
noncomputable def one1 (u : Bool) : Od := bif u then .t else .f
noncomputable def st0 (a i : Int) (sc : List Int) (p0 p1 : Par) (o : Od) (w : Bool → List UInt8) : Store := stP (wd0 a i sc p0 p1 o w) (cliL (wd0 a i sc p0 p1 o w))
section
variable {n : Nat} {a i : Int} {sc : List Int} {p0 p1 : Par} {w : Bool → List UInt8} {Q : V → Store → Prop} {K' : K} {u : Bool} {x3 x6 x7 x8 : Option V}
theorem turn0 (P : PO a i sc) (k : ∀ u w a i x3 x6 x7 x8, (∀ v, (w v).length ≤ 13) → PO a i sc → K' [some (.loc 0), some (.loc 3), some (.loc 36), x3, some (.loc 37), some (.loc 38), x6, x7, x8, none] none (st0 a i sc p0 p1 (one1 u) w)) :
    forF (wB (callF (n + 4)) (forB f__law_world.body[5]?)) [3] false Q (.int 0) [some (.loc 0), some (.loc 3), some (.loc 36), none, some (.loc 37), some (.loc 38), none, none, none, none] none (stB (poolC a sc i) p0 p1 0 0 [] [] [] [] [(.s .x_all, .d (.int p1.md))] []) K' := by
  refine drawC (n := n + 3) P (by decide) fun d a1 j d0 d1 P1 => ⟨i0, ?_⟩
  generalize decide (d = 1) = u
  cases u
  · exact open_f0 (n := n) (L := 39) rfl (by decide) (by decide) (by decide) (fill (n := n + 2) (u := false) (m := 0) rfl rfl rfl (by decide) (by decide : 1 ≤ lim) P1 fun w a i x8 hw P2 => k false (fun _ => w) a i _ _ _ x8 (fun _ => hw) P2)
  · exact open_t0 (n := n) (L := 39) rfl (by decide) (fill (n := n + 2) (u := true) (m := 0) rfl rfl rfl (by decide) (by decide : 1 ≤ lim) P1 fun w a i x8 hw P2 => k true (fun _ => w) a i _ _ _ x8 (fun _ => hw) P2)
theorem turn1 (P : PO a i sc) (h : ∀ v, (w v).length ≤ 13) (k : ∀ w a i x3 x6 x7 x8, (∀ v, (w v).length ≤ 13) → PO a i sc → K' [some (.loc 0), some (.loc 3), some (.loc 36), x3, some (.loc 37), some (.loc 38), x6, x7, x8, none] none (st0 a i sc p0 p1 ((one1 u).add (!u)) w)) :
    forF (wB (callF (n + 4)) (forB f__law_world.body[5]?)) [3] false Q (.int 1) [some (.loc 0), some (.loc 3), some (.loc 36), x3, some (.loc 37), some (.loc 38), x6, x7, x8, none] none (st0 a i sc p0 p1 (one1 u) w) K' := by
  have hb : ∀ {w2 : List UInt8}, w2.length ≤ 13 → ∀ v, (bup w (!u) w2 v).length ≤ 13 := fun h2 => bup_all (P := fun _ (y : List UInt8) => y.length ≤ 13) h2 fun v _ => h v
  cases u
  · have e : st0 a i sc p0 p1 (one1 false) w = stB (poolC a sc i) p0 p1 1 0 [(.i 0, .loc 39)] [(.i 0, .loc 40)] [(.i 0, .loc 41)] [(.i 0, .d (.bytes (w false)))] [(.s .x_all, .d (.int p1.md)), (.i 0, .d (.int p1.br))] [sndC (w false) true ⟨p1.br, 0, .rdy, [], [], true, false⟩, rcC [] p0.bl rcv0, winW (win0 p0.bl)] := rfl
    rw [e]
    exact ⟨i0, open_t0 (n := n) (L := 42) rfl (by decide : 1 ≤ lim) (fill (n := n + 2) (u := true) (m := 3) rfl rfl rfl (by decide : 1 ≤ lim) (by decide : 2 ≤ lim) P fun w2 a i x8 hw P2 => k (bup w true w2) a i _ _ _ x8 (hb hw) P2)⟩
  · have e : st0 a i sc p0 p1 (one1 true) w = stB (poolC a sc i) p0 p1 0 1 [(.i 2, .loc 39)] [] [] [(.i 2, .d (.bytes (w true)))] [(.s .x_all, .d (.int p1.md)), (.i 2, .d (.int p1.un))] [sndC (w true) true ⟨p1.un, 0, .rdy, [], [], true, false⟩] := rfl
    rw [e]
    exact ⟨i0, open_f0 (n := n) (L := 40) rfl (by decide : 1 ≤ lim) (by decide) (by decide) (fill (n := n + 2) (u := false) (m := 1) rfl rfl rfl (by decide : 1 ≤ lim) (by decide : 2 ≤ lim) P fun w2 a i x8 hw P2 => k (bup w false w2) a i _ _ _ x8 (hb hw) P2)⟩
theorem law_world (P : PO a i sc) (k : ∀ p0 p1 a i o w, ParOK p0 → ParOK p1 → PO a i sc → (∃ u, o.has u = true) → (∀ u, (w u).length ≤ 13) → Q (.loc (cb o + 39)) (stOf (wd0 a i sc p0 p1 o w))) : Call (callF (n + 5)) .x_law .x__law_world [.loc 0] [poolC a sc i] Q := by
  refine world_head P fun p0 p1 a i h0 h1 P1 => drawC (n := n + 3) P1 (by decide) fun d a2 i2 d0 d1 P2 => ?_
  have d2 : d = 0 ∨ d = 1 := by omega
  rcases d2 with rfl | rfl
  · exact ⟨sm1, ⟨turn0 P2 fun u w a i x3 x6 x7 x8 hw P3 => world_end (n := n + 4) (K' := kEnd Q) (x3 := x3) (x6 := x6) (x7 := x7) (x8 := x8) (x9 := none) (k p0 p1 a i (one1 u) w h0 h1 P3 ⟨u, by cases u <;> rfl⟩ hw)⟩⟩
  · exact ⟨sm2, ⟨turn0 P2 fun u w a i x3 x6 x7 x8 hw P3 => turn1 (u := u) P3 hw fun w a i x3 x6 x7 x8 hw P4 => world_end (n := n + 4) (K' := kEnd Q) (x3 := x3) (x6 := x6) (x7 := x7) (x8 := x8) (x9 := none) (k p0 p1 a i ((one1 u).add (!u)) w h0 h1 P4 ⟨!u, has_add⟩ hw)⟩⟩
end
end
section
section
variable {a i : Int} {sc : List Int} {p0 p1 : Par} {o : Od} {w : Bool → List UInt8}
theorem ParOK.ow (h : ParOK p1) (u : Bool) : 3 ≤ owW p1 u ∧ owW p1 u ≤ 11 := by cases u; exact ⟨h.r0, h.r1⟩; exact ⟨h.u0, h.u1⟩
theorem wd0_ok (h0 : ParOK p0) (h1 : ParOK p1) (P : PO a i sc) (hw : ∀ u, (w u).length ≤ 13) : WI (wd0 a i sc p0 p1 o w) :=
  have z : ∀ u, (0 : Int) ≤ (w u).length := fun u => Int.natCast_nonneg _
  ⟨fun u => ⟨⟨Int.ofNat_le.mpr (hw u), Int.le_refl 0, z u, let' (by decide : (0 : Int) ≤ 3) (h1.ow u).1, (by decide : (-1 : Int) ≤ 0), (by decide : (-1 : Int) ≤ 0), fun _ m => m.elim, fun _ => rfl, fun c => (nomatch c), fun c => (nomatch c), let' (by decide) (h1.ow u).1⟩, fun x h0 h1 => absurd h1 (ln h0), .inr (.inl rfl)⟩,
   fun u => ⟨⟨⟨.nil, nm⟩, Int.le_refl 0, z u, Int.le_refl 0, z u, fun c => (nomatch c), fun c => c.elim (fun c => (nomatch c)) fun c => (nomatch c), fun c => (nomatch c), fun c => absurd rfl c⟩, Int.le_refl 0, rfl, Int.le_refl _, rfl, rfl, let' (by decide) (h1.ow u).1, (h1.ow u).2, let' (h1.ow u).2 (by decide), fun _ m => m.elim, fun c => (nomatch c), fun c => absurd c (Int.lt_irrefl _), fun _ => ⟨rfl, rfl⟩⟩,
   nm, fun _ => rfl, fun _ c => (nomatch c), fun _ _ => rfl, rfl, let' (by decide : (0 : Int) ≤ 5) h1.m0, Int.le_refl _, rfl, rfl, rfl, let' (by decide) h1.m0, h1.m1, let' h1.m1 (by decide), fun c => absurd c (Int.lt_irrefl _), fun _ => rfl, fun _ => rfl, fun _ => rfl, let' (by decide) h0.m0, lelt h0.m1 (by decide), let' (by decide) h0.l0, lelt h0.l1 (by decide), P.a0, P.a1, P.i0, P.sc⟩
theorem wd0_can (h1 : ParOK p1) {u : Bool} : ¬ N0 (w u) ((wd0 a i sc p0 p1 o w).snd u) ((wd0 a i sc p0 p1 o w).cl - (wd0 a i sc p0 p1 o w).cu) := fun h => h.elim (fun c => (nomatch c)) fun c =>
  (Int.lt_or_eq_of_le (Int.natCast_nonneg (w u).length)).elim (fun l => absurd (c.2.2 l (ltle (by decide : (0 : Int) < 3) (h1.ow u).1)) (lnl (ltle (by decide) (let' h1.m0 (Int.le_of_eq (Int.sub_zero _).symm))))) fun e => (nomatch (c.2.1 e))
end
end
section
section
variable {n : Nat} {W : Wd} {Q : V → Store → Prop} {K' : K} {x0 x1 x3 x4 : Option V}
theorem cmp_mapE {α : Type} {f : D → Store → (Option D → Store → Prop) → Prop} {s : Store} {P : List D → Store → Prop} {l : List α} {L : List D} {g0 g1 : α → D} (e : L = l.map g0) (h : ∀ a ∈ l, ∀ k : Option D → Store → Prop, k (some (g1 a)) s → f (g0 a) s k) (k : P (l.map g1) s) : Cmp f L s P := by rw [e]; exact cmp_map h k
theorem lost_at {i : Nat} {j : Int} (e : j = i) (I : WI W) (hb : W.fly.length ≤ 100000) (hi : i < W.fly.length) (k : ∀ W', WI W' → W'.ord = W.ord → W'.log = W.log → W'.fly.length + 1 = W.fly.length → Q (.d .none) (stOf W')) :
    Call (callF (n + 5)) .x_law .x__law_is_lost [.loc (cb W.ord + 39), .d (.int j)] (stOf W) Q := by rw [e]; exact l_lost I hb hi k
noncomputable def tryB (x : Option Mine.S) : List Mine.S := x.casesOn [] fun x => S.casesOn x [] (fun _ _ => []) (fun _ _ => []) (fun _ _ => []) (fun _ _ _ => []) (fun _ _ => []) (fun _ _ => []) (fun _ => []) (fun _ _ _ => []) (fun _ _ _ _ _ => []) (fun _ _ => []) (fun _ => []) [] (fun b => b) (fun _ => []) (fun _ _ => []) (fun _ _ => []) (fun _ _ _ => []) [] (fun _ => []) fun _ _ _ _ _ _ _ => []
theorem turn_one (I : WI W) (hb : W.log + 2 * W.fly.length + 8 ≤ 100000) (x : Int) (k : ∀ W', WI W' → W'.ord = W.ord → W'.log + 2 * W'.fly.length ≤ W.log + 2 * W.fly.length + 8 → K' [x0, some (.loc 0), some (.loc (cb W.ord + 39)), some (.d (.int x)), x4] none (stOf W')) :
    forF (wB (callF (n + 10)) (forB (tryB f_law.body[3]?)[2]?)) [3] false Q (.int x) [x0, some (.loc 0), some (.loc (cb W.ord + 39)), x3, x4] none (stOf W) K' := l_turn I hb k
theorem turns (k : Nat) : ∀ (x : Int) (W : Wd) (x3 : Option V), WI W → W.log + 2 * W.fly.length + 8 * k ≤ 90000 → (∀ W' x3, WI W' → W'.ord = W.ord → W'.log + 2 * W'.fly.length ≤ 90000 → K' [x0, some (.loc 0), some (.loc (cb W.ord + 39)), x3, x4] none (stOf W')) →
    For (forF (wB (callF (n + 10)) (forB (tryB f_law.body[3]?)[2]?)) [3] false Q) (rngL x k) [x0, some (.loc 0), some (.loc (cb W.ord + 39)), x3, x4] none (stOf W) K' :=
  Nat.rec (motive := fun k => ∀ (x : Int) (W : Wd) (x3 : Option V), WI W → W.log + 2 * W.fly.length + 8 * k ≤ 90000 → (∀ W' x3, WI W' → W'.ord = W.ord → W'.log + 2 * W'.fly.length ≤ 90000 → K' [x0, some (.loc 0), some (.loc (cb W.ord + 39)), x3, x4] none (stOf W')) →
    For (forF (wB (callF (n + 10)) (forB (tryB f_law.body[3]?)[2]?)) [3] false Q) (rngL x k) [x0, some (.loc 0), some (.loc (cb W.ord + 39)), x3, x4] none (stOf W) K')
    (fun _ W _ I b k => ⟨k W _ I rfl b⟩) (fun m ih x W x3 I b k => ⟨turn_one I (by omega) x fun W' J e l => by
      have := ih (x + 1) W' (some (.d (.int x))) J (by omega) fun W2 x3 J2 e2 l2 => by rw [e]; exact k W2 x3 J2 (e2.trans e) l2
      rw [e] at this
      exact this.h⟩) k
theorem law_end (I : WI W) (hb : W.log + 2 * W.fly.length ≤ 90000) (k1 : ∀ s, Q (.d (.bool true)) s) : wB (callF (n + 10)) ((tryB f_law.body[3]?).drop 3) [x0, some (.loc 0), some (.loc (cb W.ord + 39)), x3, x4] none (stOf W) K' Q :=
  wh_fly (I := fun W' => WI W' ∧ W'.ord = W.ord ∧ W'.log + 2 * W'.fly.length ≤ 90000)
    (fun W' _ i h => by
      rw [← i.2.1]
      exact ons look_w (lnil (fly_nil h) (ends_well i.1 h (Nat.le_trans (Nat.le_add_right _ _) i.2.2) k1)))
    (fun W' K i h hK => by
      rw [← i.2.1] at hK ⊢
      exact ons look_w (lcons (fly_ne h) fun _ _ _ => l_lost (n := n + 5) (i := 0) i.1 (by omega) (List.length_pos_iff.mpr h) fun W2 J e0 e1 e2 => hK W2 ⟨J, e0, by omega⟩ e2))
    ⟨I, rfl, hb⟩ (Nat.lt_of_le_of_lt (by omega : W.fly.length ≤ 90000) (by decide))
end
end
section
theorem law_ok {n : Nat} {l : List Int} (hl : l.length ≤ 63) : Call (callF (n + 11)) .x_law .x_law [.d (.lst (l.map .int))] [] fun v _ => v = .d (.bool true) := by
  have h24 : (l.take 24).length ≤ 24 := List.length_take_le 24 l
  have lm : (l.map D.int).length ≤ lim := (List.length_map (as := l) D.int).symm ▸ Nat.le_trans hl (by decide)
  have lt : ((l.map D.int).take 24).length ≤ lim := Nat.le_trans (List.length_take_le 24 _) (by decide)
  have P : PO ((l.take 24).sum % 2147483647) 0 (l.take 24) := ⟨Int.emod_nonneg _ (by decide), Int.emod_lt_of_pos _ (by decide), Int.le_refl 0, Nat.le_trans h24 (by decide)⟩
  refine ⟨⟨by decide, lm, ⟨lt, cmp_mapE (l := l.take 24) (g0 := D.int) (g1 := D.int) (show (l.map D.int).take 24 = (l.take 24).map D.int from List.map_take.symm) (fun _ _ _ hk => hk) (ons (asInts_map _) ⟨by decide, law_world (n := n + 5) P fun p0 p1 a i o w h0 h1 P1 ⟨u, hu⟩ hw => ?_⟩)⟩⟩⟩
  have I := wd0_ok (o := o) h0 h1 P1 hw
  refine l_goes0 (n := n + 1) I (Nat.zero_le _) (by decide) (by decide) fun W1 I1 K1 alt => ?_
  have ⟨y, hy⟩ : ∃ y, y ∈ W1.fly := alt.elim (fun c => absurd (c.2.2 u hu) (wd0_can h1)) fun ⟨_, _, _, _, _, _, m⟩ => ⟨_, m⟩
  have pos := List.length_pos_of_mem hy
  have f4 : W1.fly.length ≤ 4 := K1.len
  have ll : (W1.fly.map (flD W1.wr)).length ≤ lim := (List.length_map (as := W1.fly) (flD W1.wr)).symm ▸ Nat.le_trans f4 (by decide)
  rw [show o = W1.ord from K1.ord.symm]
  refine ons look_w ⟨ll, lost_at (n := n + 5) (i := W1.fly.length - 1) (by rw [List.length_map]; omega) I1 (Nat.le_trans f4 (by decide)) (Nat.sub_lt pos Nat.zero_lt_one) fun W2 I2 e0 e1 e2 => ?_⟩
  rw [← e0]
  have g1 : W1.log = 0 := K1.log
  have lk : ((l.take 24).map D.int).length ≤ 24 := (List.length_map (as := l.take 24) D.int).symm ▸ h24
  have lk2 : (((l.take 24).map D.int).length : Int) ≤ 24 := Int.ofNat_le.mpr lk
  refine ⟨Nat.le_trans lk (by decide), ⟨by decide, by decide, ltle (by decide) (Int.natCast_nonneg _), lelt lk2 (by decide)⟩, by decide, ⟨?_, ?_⟩, turns _ 0 W2 _ I2 ?_ fun W3 x3 I3 e3 l3 => ?_⟩
  · omega
  · omega
  · rw [e1, g1]; omega
  · rw [← e3]; exact law_end I3 l3 fun _ => rfl
theorem holds : PySem.Challenge.rw_no0088_01.Holds := law_holds 20 (by decide) fun _ hl => law_ok (n := 10) hl
end
end Mine
theorem PySem.Challenge.cw_no0088_01_holds : PySem.Challenge.rw_no0088_01.Holds :=
  Mine.holds
