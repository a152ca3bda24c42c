import PyProof.Rows.All
import KE.KDictList
import KE.KBytesCut
import Lean
import PySem.Challenge.RW_pf0404_01
set_option linter.unusedVariables false
set_option maxRecDepth 100000
section
open PySem PySem.W PySem.Calls PyProof.Rows
namespace Mine
noncomputable abbrev pw : Program := PySem.Challenge.pw_pf0404_01
noncomputable abbrev p0 : Pos := ⟨0, 0, 0, 0⟩
noncomputable abbrev ann0 : Option Value := some (.ref 6)
noncomputable def stAt (i : Nat) : Stmt := (pw.main.body.drop i).headD (.Pass p0)
noncomputable def stIn (i j : Nat) : Stmt := match stAt i with
  | .ClassDef _ _ _ b _ _ _ _ _ _ _ => (b.drop j).headD (.Pass p0)
  | _ => .Pass p0
noncomputable def fnD (st : Stmt) (qual : Str) (dfl kw doc pm : Value) (an : Option Addr) (cd ct : Value) : FuncData := match st with
  | .FunctionDef n ps b _ _ _ sc _ _ _ => { name := n, qualname := qual, params := ps, body := .stmts b, scope := sc, globals := 3, closure := [], defaults := dfl, kwdefaults := kw, doc := doc, pyModule := pm, annotations := an, code := cd, closureTuple := ct, builtins := 0 }
  | _ => { name := qual, qualname := qual, params := default, body := .stmts [], scope := default, globals := 3, closure := [], defaults := dfl, kwdefaults := kw }
noncomputable def fob (f : FuncData) : Obj := ⟨.type "function", none, .func f, #[]⟩
noncomputable def cob (n : Str) (a : Nat) (q : Str) (b c : Nat) (l k1 k2 k3 : Int) (r1 r2 : Nat) (v1 v2 v3 v4 : Value) (z l2 : Int) (d : Nat) : Obj := { cls := .type "code", data := .fields #[.str n a, .str q b, .str (.ofString "/claim/cut.py") c, .int l 0, .int k1 0, .int k2 0, .int k3 0, .int 3 0, .ref r1, .bool true, .int 181 0, .ref r2, v1, v2, v3, v4, .int z 0, .int l2 0, .str (.ofString "/claim/cut.py") d] }
noncomputable def ent (P : Params) (x : Str) (t : Tok) (v : Value) : DictEntry := ⟨PyData.keyHash P x, .str x t, v⟩
noncomputable def o11 : Obj := { cls := .type "tuple", data := .seq #[] }
noncomputable def o12 : Obj := { cls := .none, data := .fields #[] }
noncomputable def o13 : Obj := { cls := .type "code", data := .fields #[.str (.ofString "<module>") 182, .str (.ofString "<module>") 183, .str (.ofString "/claim/cut.py") 184, .int 1 0, .int 0 0, .int 0 0, .int 0 0,
  .int 0 0, .ref 11, .bool false, .int 181 0, .ref 12, .none, .none, .none, .none, .int 185 0, .int 1 0, .str (.ofString "/claim/cut.py") 186] }
noncomputable def o14 : Obj := { cls := .type "frame", slots := #[some (.ref 13), some (.ref 3), some (.ref 3), none, some (.str (.ofString "__main__") 164), none, some (.ref 0)] }
noncomputable def tree0 (P : Params) : BT := (.node (boot_o_0 P) (.node (boot_o_1 P) (.node (boot_o_3 P) (.node (boot_o_7 P) .nil .nil) (.node o11 .nil .nil)) (.node (boot_o_5 P) (.node (boot_o_9 P) .nil .nil) (.node o13 .nil .nil))) (.node (boot_o_2 P) (.node (boot_o_4 P) (.node (boot_o_8 P) .nil .nil) (.node o12 .nil .nil)) (.node (boot_o_6 P) (.node (boot_o_10 P) .nil .nil) (.node o14 .nil .nil))))
noncomputable def ns3 (P : Params) : List DictEntry := [ent P "__doc__" 166 .none,
 ent P "__package__" 167 .none,
 ent P "__loader__" 168 (.builtin "__main__.__loader__#opaque"),
 ent P "__spec__" 169 .none,
 ent P "__annotations__" 170 (.ref 6),
 ent P "__builtins__" 171 (.ref 4),
 ent P "__file__" 173 (.str "/claim/cut.py" 172),
 ent P "__cached__" 174 .none,
 ent P "_wall" 193 (.ref 21),
 ent P "StackError" 224 (.ref 38),
 ent P "SizeError" 240 (.ref 51),
 ent P "StateError" 256 (.ref 63),
 ent P "ResetError" 272 (.ref 75),
 ent P "TimedOutError" 288 (.ref 87),
 ent P "plus" 299 (.ref 96),
 ent P "distance" 308 (.ref 103),
 ent P "is_before" 318 (.ref 110),
 ent P "is_at_most" 327 (.ref 117),
 ent P "latest" 336 (.ref 124),
 ent P "AckPolicy" 409 (.ref 177),
 ent P "Congestion" 521 (.ref 261),
 ent P "MOST_SHIFT_retransmit" 525 (.int (7) 524),
 ent P "RetransmitClock" 624 (.ref 338),
 ent P "RttEstimate" 700 (.ref 394),
 ent P "SendQueue" 772 (.ref 450),
 ent P "PeerWindow" 827 (.ref 485),
 ent P "Sender" 1068 (.ref 676),
 ent P "put16" 1077 (.ref 687),
 ent P "FIN" 1081 (.int (1) 1080),
 ent P "SYN" 1083 (.int (2) 1082),
 ent P "RST" 1085 (.int (4) 1084),
 ent P "PSH" 1087 (.int (8) 1086),
 ent P "ACK" 1089 (.int (16) 1088),
 ent P "OPTION_MSS" 1091 (.int (2) 1090),
 ent P "MSS_SIZE" 1093 (.int (4) 1092),
 ent P "Segment" 1164 (.ref 726),
 ent P "check_number" 1172 (.ref 737),
 ent P "mss_option" 1179 (.ref 744),
 ent P "CLOSED" 1183 (.str "closed" 1182),
 ent P "LISTEN" 1185 (.str "listen" 1184),
 ent P "SYN_SENT" 1187 (.str "syn sent" 1186),
 ent P "SYN_RECEIVED" 1189 (.str "syn received" 1188),
 ent P "ESTABLISHED" 1191 (.str "established" 1190),
 ent P "FIN_WAIT_1" 1193 (.str "fin wait 1" 1192),
 ent P "FIN_WAIT_2" 1195 (.str "fin wait 2" 1194),
 ent P "CLOSE_WAIT" 1197 (.str "close wait" 1196),
 ent P "CLOSING" 1199 (.str "closing" 1198),
 ent P "LAST_ACK" 1201 (.str "last ack" 1200),
 ent P "TIME_WAIT" 1203 (.str "time wait" 1202),
 ent P "opening_steps" 1209 (.ref 751),
 ent P "closing_steps" 1215 (.ref 758),
 ent P "follow" 1224 (.ref 765),
 ent P "may_send" 1231 (.ref 772),
 ent P "is_sending" 1238 (.ref 779),
 ent P "Wheel" 1332 (.ref 842),
 ent P "RESEND" 1336 (.int (1) 1335),
 ent P "PERSIST" 1338 (.int (2) 1337),
 ent P "DELAYED" 1340 (.int (3) 1339),
 ent P "WAIT" 1342 (.int (4) 1341),
 ent P "MOST_WINDOW" 1344 (.int (65535) 1343),
 ent P "Limits" 1391 (.ref 863),
 ent P "clock_of" 1399 (.ref 874),
 ent P "Tcb" 1465 (.ref 906),
 ent P "MOST_SHIFT_tcp_user" 1469 (.int (7) 1468),
 ent P "change_state" 1478 (.ref 917),
 ent P "closed" 1487 (.ref 924),
 ent P "enter_time_wait" 1496 (.ref 931),
 ent P "check_error" 1503 (.ref 938),
 ent P "open_active" 1511 (.ref 945),
 ent P "send" 1521 (.ref 952),
 ent P "close" 1529 (.ref 959),
 ent P "abort" 1538 (.ref 966),
 ent P "ack_segment" 1545 (.ref 973),
 ent P "syn_segment" 1552 (.ref 980),
 ent P "flags_of" 1561 (.ref 987),
 ent P "take_asked_fin" 1569 (.ref 994),
 ent P "data_segments" 1585 (.ref 1001),
 ent P "output" 1594 (.ref 1008),
 ent P "keep_timers" 1602 (.ref 1015),
 ent P "probe_wait" 1610 (.ref 1022),
 ent P "on_time" 1620 (.ref 1029),
 ent P "sent_again" 1630 (.ref 1036),
 ent P "segment_again" 1641 (.ref 1043),
 ent P "probed" 1655 (.ref 1050),
 ent P "Assembly" 1813 (.ref 1142),
 ent P "Receiver" 1987 (.ref 1276),
 ent P "_law_pool" 2000 (.ref 1287),
 ent P "_law_take" 2009 (.ref 1294),
 ent P "_law_one" 2017 (.ref 1301),
 ent P "_law_made" 2028 (.ref 1308),
 ent P "_law_times" 2034 (.ref 1313),
 ent P "_law_given_up_right" 2040 (.ref 1318),
 ent P "_law_waits_right" 2050 (.ref 1325),
 ent P "_law_open" 2058 (.ref 1332),
 ent P "_law_tries_right" 2064 (.ref 1337),
 ent P "law" 2077 (.ref 1344)]
noncomputable def o3 (P : Params) (x : Str) (t : Tok) (l : List DictEntry) (m : Nat) : Obj := ⟨.type "dict", none, .dict ⟨ent P "__name__" 165 (.str x t) :: l⟩ m, #[]⟩
noncomputable def D96 : FuncData := fnD (stAt 8) "plus" .none .none .none (.str "thinstack.sequence" 289) none (.ref 95) .none
noncomputable def D103 : FuncData := fnD (stAt 9) "distance" .none .none .none (.str "thinstack.sequence" 289) none (.ref 102) .none
noncomputable def D110 : FuncData := fnD (stAt 10) "is_before" .none .none .none (.str "thinstack.sequence" 289) none (.ref 109) .none
noncomputable def D117 : FuncData := fnD (stAt 11) "is_at_most" .none .none .none (.str "thinstack.sequence" 289) none (.ref 116) .none
noncomputable def D124 : FuncData := fnD (stAt 12) "latest" .none .none .none (.str "thinstack.sequence" 289) none (.ref 123) .none
noncomputable def D138 : FuncData := fnD (stIn 14 0) "AckPolicy.__init__" .none .none .none (.str "thinstack.acks" 337) none (.ref 137) .none
noncomputable def D167 : FuncData := fnD (stIn 14 4) "AckPolicy.on_sent" .none .none .none (.str "thinstack.acks" 337) none (.ref 166) .none
noncomputable def D174 : FuncData := fnD (stIn 14 5) "AckPolicy.due_time" .none .none .none (.str "thinstack.acks" 337) none (.ref 173) .none
noncomputable def D195 : FuncData := fnD (stIn 16 0) "Congestion.__init__" .none .none .none (.str "thinstack.congestion" 410) none (.ref 194) .none
noncomputable def D202 : FuncData := fnD (stIn 16 1) "Congestion.window" .none .none .none (.str "thinstack.congestion" 410) none (.ref 201) .none
noncomputable def D216 : FuncData := fnD (stIn 16 3) "Congestion.halved" .none .none .none (.str "thinstack.congestion" 410) none (.ref 215) .none
noncomputable def D258 : FuncData := fnD (stIn 16 9) "Congestion.timed_out" .none .none .none (.str "thinstack.congestion" 410) none (.ref 257) .none
noncomputable def D279 : FuncData := fnD (stIn 19 0) "RetransmitClock.__init__" .none .none .none (.str "thinstack.retransmit" 522) none (.ref 278) .none
noncomputable def D293 : FuncData := fnD (stIn 19 2) "RetransmitClock.sent" .none .none .none (.str "thinstack.retransmit" 522) none (.ref 292) .none
noncomputable def D300 : FuncData := fnD (stIn 19 3) "RetransmitClock.forget" .none .none .none (.str "thinstack.retransmit" 522) none (.ref 299) .none
noncomputable def D314 : FuncData := fnD (stIn 19 5) "RetransmitClock.back_off" .none .none .none (.str "thinstack.retransmit" 522) none (.ref 313) .none
noncomputable def D328 : FuncData := fnD (stIn 19 7) "RetransmitClock.waited" .none .none .none (.str "thinstack.retransmit" 522) none (.ref 327) .none
noncomputable def D335 : FuncData := fnD (stIn 19 8) "RetransmitClock.deadline" .none .none .none (.str "thinstack.retransmit" 522) none (.ref 334) .none
noncomputable def D356 : FuncData := fnD (stIn 21 0) "RttEstimate.__init__" .none .none .none (.str "thinstack.rtt" 625) none (.ref 355) .none
noncomputable def D377 : FuncData := fnD (stIn 21 3) "RttEstimate.plain_timeout" .none .none .none (.str "thinstack.rtt" 625) none (.ref 376) .none
noncomputable def D384 : FuncData := fnD (stIn 21 4) "RttEstimate.timeout" .none .none .none (.str "thinstack.rtt" 625) none (.ref 383) .none
noncomputable def D391 : FuncData := fnD (stIn 21 5) "RttEstimate.bounded" .none .none .none (.str "thinstack.rtt" 625) none (.ref 390) .none
noncomputable def D412 : FuncData := fnD (stIn 23 0) "SendQueue.__init__" .none .none .none (.str "thinstack.send_queue" 701) none (.ref 411) .none
noncomputable def D419 : FuncData := fnD (stIn 23 1) "SendQueue.size" .none .none .none (.str "thinstack.send_queue" 701) none (.ref 418) .none
noncomputable def D426 : FuncData := fnD (stIn 23 2) "SendQueue.room_left" .none .none .none (.str "thinstack.send_queue" 701) none (.ref 425) .none
noncomputable def D433 : FuncData := fnD (stIn 23 3) "SendQueue.put" .none .none .none (.str "thinstack.send_queue" 701) none (.ref 432) .none
noncomputable def D440 : FuncData := fnD (stIn 23 4) "SendQueue.part" .none .none .none (.str "thinstack.send_queue" 701) none (.ref 439) .none
noncomputable def D447 : FuncData := fnD (stIn 23 5) "SendQueue.drop" .none .none .none (.str "thinstack.send_queue" 701) none (.ref 446) .none
noncomputable def D468 : FuncData := fnD (stIn 25 0) "PeerWindow.__init__" .none .none .none (.str "thinstack.sender" 773) none (.ref 467) .none
noncomputable def D475 : FuncData := fnD (stIn 25 1) "PeerWindow.is_newer" .none .none .none (.str "thinstack.sender" 773) none (.ref 474) .none
noncomputable def D482 : FuncData := fnD (stIn 25 2) "PeerWindow.take" .none .none .none (.str "thinstack.sender" 773) none (.ref 481) .none
noncomputable def D503 : FuncData := fnD (stIn 26 0) "Sender.__init__" .none .none .none (.str "thinstack.sender" 773) none (.ref 502) .none
noncomputable def D510 : FuncData := fnD (stIn 26 1) "Sender.window" .none .none .none (.str "thinstack.sender" 773) none (.ref 509) .none
noncomputable def D518 : FuncData := fnD (stIn 26 2) "Sender.take_window" .none .none .none (.str "thinstack.sender" 773) none (.ref 517) .none
noncomputable def D525 : FuncData := fnD (stIn 26 3) "Sender.put" .none .none .none (.str "thinstack.sender" 773) none (.ref 524) .none
noncomputable def D532 : FuncData := fnD (stIn 26 4) "Sender.ask_fin" .none .none .none (.str "thinstack.sender" 773) none (.ref 531) .none
noncomputable def D539 : FuncData := fnD (stIn 26 5) "Sender.flight" .none .none .none (.str "thinstack.sender" 773) none (.ref 538) .none
noncomputable def D546 : FuncData := fnD (stIn 26 6) "Sender.usable" .none .none .none (.str "thinstack.sender" 773) none (.ref 545) .none
noncomputable def D553 : FuncData := fnD (stIn 26 7) "Sender.data_sent" .none .none .none (.str "thinstack.sender" 773) none (.ref 552) .none
noncomputable def D560 : FuncData := fnD (stIn 26 8) "Sender.unsent" .none .none .none (.str "thinstack.sender" 773) none (.ref 559) .none
noncomputable def D567 : FuncData := fnD (stIn 26 9) "Sender.is_fin_due" .none .none .none (.str "thinstack.sender" 773) none (.ref 566) .none
noncomputable def D574 : FuncData := fnD (stIn 26 10) "Sender.is_fin_acked" .none .none .none (.str "thinstack.sender" 773) none (.ref 573) .none
noncomputable def D588 : FuncData := fnD (stIn 26 12) "Sender.go_on" .none .none .none (.str "thinstack.sender" 773) none (.ref 587) .none
noncomputable def D595 : FuncData := fnD (stIn 26 13) "Sender.start" .none .none .none (.str "thinstack.sender" 773) none (.ref 594) .none
noncomputable def D602 : FuncData := fnD (stIn 26 14) "Sender.may_go" .none .none .none (.str "thinstack.sender" 773) none (.ref 601) .none
noncomputable def D610 : FuncData := fnD (stIn 26 15) "Sender.pieces" (.ref 603) .none .none (.str "thinstack.sender" 773) none (.ref 609) .none
noncomputable def D617 : FuncData := fnD (stIn 26 16) "Sender.piece_of" .none .none .none (.str "thinstack.sender" 773) none (.ref 616) .none
noncomputable def D624 : FuncData := fnD (stIn 26 17) "Sender.ever_sent" .none .none .none (.str "thinstack.sender" 773) none (.ref 623) .none
noncomputable def D631 : FuncData := fnD (stIn 26 18) "Sender.first_piece" .none .none .none (.str "thinstack.sender" 773) none (.ref 630) .none
noncomputable def D638 : FuncData := fnD (stIn 26 19) "Sender.reach" .none .none .none (.str "thinstack.sender" 773) none (.ref 637) .none
noncomputable def D645 : FuncData := fnD (stIn 26 20) "Sender.back_to" .none .none .none (.str "thinstack.sender" 773) none (.ref 644) .none
noncomputable def D652 : FuncData := fnD (stIn 26 21) "Sender.is_idle_with_more" .none .none .none (.str "thinstack.sender" 773) none (.ref 651) .none
noncomputable def D659 : FuncData := fnD (stIn 26 22) "Sender.needs_probe" .none .none .none (.str "thinstack.sender" 773) none (.ref 658) .none
noncomputable def D666 : FuncData := fnD (stIn 26 23) "Sender.probe" .none .none .none (.str "thinstack.sender" 773) none (.ref 665) .none
noncomputable def D673 : FuncData := fnD (stIn 26 24) "Sender.acked" .none .none .none (.str "thinstack.sender" 773) none (.ref 672) .none
noncomputable def D687 : FuncData := fnD (stAt 28) "put16" .none .none .none (.str "thinstack.octets" 1069) none (.ref 686) .none
noncomputable def D702 : FuncData := fnD (stIn 37 0) "Segment.__init__" (.ref 695) .none .none (.str "thinstack.tcp_segment" 1078) none (.ref 701) .none
noncomputable def D723 : FuncData := fnD (stIn 37 3) "Segment.row" .none .none .none (.str "thinstack.tcp_segment" 1078) none (.ref 722) .none
noncomputable def D737 : FuncData := fnD (stAt 38) "check_number" .none .none .none (.str "thinstack.tcp_segment" 1078) none (.ref 736) .none
noncomputable def D744 : FuncData := fnD (stAt 39) "mss_option" .none .none .none (.str "thinstack.tcp_segment" 1078) none (.ref 743) .none
noncomputable def D751 : FuncData := fnD (stAt 52) "opening_steps" .none .none .none (.str "thinstack.tcp_states" 1180) none (.ref 750) .none
noncomputable def D758 : FuncData := fnD (stAt 53) "closing_steps" .none .none .none (.str "thinstack.tcp_states" 1180) none (.ref 757) .none
noncomputable def D765 : FuncData := fnD (stAt 54) "follow" .none .none .none (.str "thinstack.tcp_states" 1180) none (.ref 764) .none
noncomputable def D772 : FuncData := fnD (stAt 55) "may_send" .none .none .none (.str "thinstack.tcp_states" 1180) none (.ref 771) .none
noncomputable def D779 : FuncData := fnD (stAt 56) "is_sending" .none .none .none (.str "thinstack.tcp_states" 1180) none (.ref 778) .none
noncomputable def D792 : FuncData := fnD (stIn 58 0) "Wheel.__init__" (.ref 787) .none .none (.str "thinstack.wheel" 1239) none (.ref 791) .none
noncomputable def D799 : FuncData := fnD (stIn 58 1) "Wheel.put" .none .none .none (.str "thinstack.wheel" 1239) none (.ref 798) .none
noncomputable def D806 : FuncData := fnD (stIn 58 2) "Wheel.list_of" .none .none .none (.str "thinstack.wheel" 1239) none (.ref 805) .none
noncomputable def D813 : FuncData := fnD (stIn 58 3) "Wheel.cancel" .none .none .none (.str "thinstack.wheel" 1239) none (.ref 812) .none
noncomputable def D820 : FuncData := fnD (stIn 58 4) "Wheel.time_of" .none .none .none (.str "thinstack.wheel" 1239) none (.ref 819) .none
noncomputable def D832 : FuncData := fnD (stIn 58 6) "Wheel.due" .none .none .none (.str "thinstack.wheel" 1239) none (.ref 831) .none
noncomputable def D839 : FuncData := fnD (stIn 58 7) "Wheel.keys_until" .none .none .none (.str "thinstack.wheel" 1239) none (.ref 838) .none
noncomputable def D860 : FuncData := fnD (stIn 65 0) "Limits.__init__" .none .none .none (.str "thinstack.tcb" 1333) none (.ref 859) .none
noncomputable def D874 : FuncData := fnD (stAt 66) "clock_of" .none .none .none (.str "thinstack.tcb" 1333) none (.ref 873) .none
noncomputable def D888 : FuncData := fnD (stIn 67 0) "Tcb.__init__" .none .none .none (.str "thinstack.tcb" 1333) none (.ref 887) .none
noncomputable def D895 : FuncData := fnD (stIn 67 1) "Tcb.window_now" .none .none .none (.str "thinstack.tcb" 1333) none (.ref 894) .none
noncomputable def D903 : FuncData := fnD (stIn 67 2) "Tcb.make" (.ref 896) .none .none (.str "thinstack.tcb" 1333) none (.ref 902) .none
noncomputable def D917 : FuncData := fnD (stAt 70) "change_state" .none .none .none (.str "thinstack.tcp_user" 1466) none (.ref 916) .none
noncomputable def D924 : FuncData := fnD (stAt 71) "closed" .none .none .none (.str "thinstack.tcp_user" 1466) none (.ref 923) .none
noncomputable def D931 : FuncData := fnD (stAt 72) "enter_time_wait" .none .none .none (.str "thinstack.tcp_user" 1466) none (.ref 930) .none
noncomputable def D938 : FuncData := fnD (stAt 73) "check_error" .none .none .none (.str "thinstack.tcp_user" 1466) none (.ref 937) .none
noncomputable def D945 : FuncData := fnD (stAt 74) "open_active" .none .none .none (.str "thinstack.tcp_user" 1466) none (.ref 944) .none
noncomputable def D952 : FuncData := fnD (stAt 75) "send" .none .none .none (.str "thinstack.tcp_user" 1466) none (.ref 951) .none
noncomputable def D959 : FuncData := fnD (stAt 76) "close" .none .none .none (.str "thinstack.tcp_user" 1466) none (.ref 958) .none
noncomputable def D966 : FuncData := fnD (stAt 77) "abort" .none .none .none (.str "thinstack.tcp_user" 1466) none (.ref 965) .none
noncomputable def D973 : FuncData := fnD (stAt 78) "ack_segment" .none .none .none (.str "thinstack.tcp_user" 1466) none (.ref 972) .none
noncomputable def D980 : FuncData := fnD (stAt 79) "syn_segment" .none .none .none (.str "thinstack.tcp_user" 1466) none (.ref 979) .none
noncomputable def D987 : FuncData := fnD (stAt 80) "flags_of" .none .none .none (.str "thinstack.tcp_user" 1466) none (.ref 986) .none
noncomputable def D994 : FuncData := fnD (stAt 81) "take_asked_fin" .none .none .none (.str "thinstack.tcp_user" 1466) none (.ref 993) .none
noncomputable def D1001 : FuncData := fnD (stAt 82) "data_segments" .none .none .none (.str "thinstack.tcp_user" 1466) none (.ref 1000) .none
noncomputable def D1008 : FuncData := fnD (stAt 83) "output" .none .none .none (.str "thinstack.tcp_user" 1466) none (.ref 1007) .none
noncomputable def D1015 : FuncData := fnD (stAt 84) "keep_timers" .none .none .none (.str "thinstack.tcp_user" 1466) none (.ref 1014) .none
noncomputable def D1022 : FuncData := fnD (stAt 85) "probe_wait" .none .none .none (.str "thinstack.tcp_user" 1466) none (.ref 1021) .none
noncomputable def D1029 : FuncData := fnD (stAt 86) "on_time" .none .none .none (.str "thinstack.tcp_user" 1466) none (.ref 1028) .none
noncomputable def D1036 : FuncData := fnD (stAt 87) "sent_again" .none .none .none (.str "thinstack.tcp_user" 1466) none (.ref 1035) .none
noncomputable def D1043 : FuncData := fnD (stAt 88) "segment_again" .none .none .none (.str "thinstack.tcp_user" 1466) none (.ref 1042) .none
noncomputable def D1050 : FuncData := fnD (stAt 89) "probed" .none .none .none (.str "thinstack.tcp_user" 1466) none (.ref 1049) .none
noncomputable def D1064 : FuncData := fnD (stIn 91 0) "Assembly.__init__" .none .none .none (.str "thinstack.assembly" 1656) none (.ref 1063) .none
noncomputable def D1083 : FuncData := fnD (stIn 91 3) "Assembly.offset" .none .none .none (.str "thinstack.assembly" 1656) none (.ref 1082) .none
noncomputable def D1090 : FuncData := fnD (stIn 91 4) "Assembly.put" .none .none .none (.str "thinstack.assembly" 1656) none (.ref 1089) .none
noncomputable def D1097 : FuncData := fnD (stIn 91 5) "Assembly.missing" .none .none .none (.str "thinstack.assembly" 1656) none (.ref 1096) .none
noncomputable def D1104 : FuncData := fnD (stIn 91 6) "Assembly.merged" .none .none .none (.str "thinstack.assembly" 1656) none (.ref 1103) .none
noncomputable def D1111 : FuncData := fnD (stIn 91 7) "Assembly.joined" .none .none .none (.str "thinstack.assembly" 1656) none (.ref 1110) .none
noncomputable def D1118 : FuncData := fnD (stIn 91 8) "Assembly.forget" .none .none .none (.str "thinstack.assembly" 1656) none (.ref 1117) .none
noncomputable def D1125 : FuncData := fnD (stIn 91 9) "Assembly.take" .none .none .none (.str "thinstack.assembly" 1656) none (.ref 1124) .none
noncomputable def D1139 : FuncData := fnD (stIn 91 11) "Assembly.cut_behind" .none .none .none (.str "thinstack.assembly" 1656) none (.ref 1138) .none
noncomputable def D1161 : FuncData := fnD (stIn 93 0) "Receiver.__init__" (.ref 1154) .none .none (.str "thinstack.receiver" 1814) none (.ref 1160) .none
noncomputable def D1168 : FuncData := fnD (stIn 93 1) "Receiver.free_edge" .none .none .none (.str "thinstack.receiver" 1814) none (.ref 1167) .none
noncomputable def D1175 : FuncData := fnD (stIn 93 2) "Receiver.should_tell" .none .none .none (.str "thinstack.receiver" 1814) none (.ref 1174) .none
noncomputable def D1182 : FuncData := fnD (stIn 93 3) "Receiver.told_window" .none .none .none (.str "thinstack.receiver" 1814) none (.ref 1181) .none
noncomputable def D1189 : FuncData := fnD (stIn 93 4) "Receiver.window" .none .none .none (.str "thinstack.receiver" 1814) none (.ref 1188) .none
noncomputable def D1196 : FuncData := fnD (stIn 93 5) "Receiver.arrive" .none .none .none (.str "thinstack.receiver" 1814) none (.ref 1195) .none
noncomputable def D1203 : FuncData := fnD (stIn 93 6) "Receiver.let_in" .none .none .none (.str "thinstack.receiver" 1814) none (.ref 1202) .none
noncomputable def D1210 : FuncData := fnD (stIn 93 7) "Receiver.note_fin" .none .none .none (.str "thinstack.receiver" 1814) none (.ref 1209) .none
noncomputable def D1217 : FuncData := fnD (stIn 93 8) "Receiver.ahead_of_fin" .none .none .none (.str "thinstack.receiver" 1814) none (.ref 1216) .none
noncomputable def D1224 : FuncData := fnD (stIn 93 9) "Receiver.gather" .none .none .none (.str "thinstack.receiver" 1814) none (.ref 1223) .none
noncomputable def D1287 : FuncData := fnD (stAt 95) "_law_pool" .none .none .none (.str "law_pf0404_01" 1988) none (.ref 1286) .none
noncomputable def D1294 : FuncData := fnD (stAt 96) "_law_take" .none .none .none (.str "law_pf0404_01" 1988) none (.ref 1293) .none
noncomputable def D1301 : FuncData := fnD (stAt 97) "_law_one" .none .none .none (.str "law_pf0404_01" 1988) none (.ref 1300) .none
noncomputable def D1308 : FuncData := fnD (stAt 98) "_law_made" .none .none .none (.str "law_pf0404_01" 1988) none (.ref 1307) .none
noncomputable def D1313 : FuncData := fnD (stAt 99) "_law_times" .none .none .none (.str "law_pf0404_01" 1988) none (.ref 1312) .none
noncomputable def D1318 : FuncData := fnD (stAt 100) "_law_given_up_right" .none .none .none (.str "law_pf0404_01" 1988) none (.ref 1317) .none
noncomputable def D1325 : FuncData := fnD (stAt 101) "_law_waits_right" .none .none .none (.str "law_pf0404_01" 1988) none (.ref 1324) .none
noncomputable def D1332 : FuncData := fnD (stAt 102) "_law_open" .none .none .none (.str "law_pf0404_01" 1988) none (.ref 1331) .none
noncomputable def D1337 : FuncData := fnD (stAt 103) "_law_tries_right" .none .none .none (.str "law_pf0404_01" 1988) none (.ref 1336) .none
noncomputable def D1344 : FuncData := fnD (stAt 104) "law" .none .none .none (.str "law_pf0404_01" 1988) none (.ref 1343) .none
noncomputable def cd_177 : ClassData := { name := "AckPolicy", bases := [(.type "object")], mro := [(.ref 177), (.type "object")], ns := 176, qualname := "AckPolicy", hasDict := true, slotNames := [], subclasses := [], abstract := false, collection := none, hasDel := false }
noncomputable def cd_261 : ClassData := { name := "Congestion", bases := [(.type "object")], mro := [(.ref 261), (.type "object")], ns := 260, qualname := "Congestion", hasDict := true, slotNames := [], subclasses := [], abstract := false, collection := none, hasDel := false }
noncomputable def cd_338 : ClassData := { name := "RetransmitClock", bases := [(.type "object")], mro := [(.ref 338), (.type "object")], ns := 337, qualname := "RetransmitClock", hasDict := true, slotNames := [], subclasses := [], abstract := false, collection := none, hasDel := false }
noncomputable def cd_394 : ClassData := { name := "RttEstimate", bases := [(.type "object")], mro := [(.ref 394), (.type "object")], ns := 393, qualname := "RttEstimate", hasDict := true, slotNames := [], subclasses := [], abstract := false, collection := none, hasDel := false }
noncomputable def cd_450 : ClassData := { name := "SendQueue", bases := [(.type "object")], mro := [(.ref 450), (.type "object")], ns := 449, qualname := "SendQueue", hasDict := true, slotNames := [], subclasses := [], abstract := false, collection := none, hasDel := false }
noncomputable def cd_485 : ClassData := { name := "PeerWindow", bases := [(.type "object")], mro := [(.ref 485), (.type "object")], ns := 484, qualname := "PeerWindow", hasDict := true, slotNames := [], subclasses := [], abstract := false, collection := none, hasDel := false }
noncomputable def cd_676 : ClassData := { name := "Sender", bases := [(.type "object")], mro := [(.ref 676), (.type "object")], ns := 675, qualname := "Sender", hasDict := true, slotNames := [], subclasses := [], abstract := false, collection := none, hasDel := false }
noncomputable def cd_726 : ClassData := { name := "Segment", bases := [(.type "object")], mro := [(.ref 726), (.type "object")], ns := 725, qualname := "Segment", hasDict := true, slotNames := [], subclasses := [], abstract := false, collection := none, hasDel := false }
noncomputable def cd_842 : ClassData := { name := "Wheel", bases := [(.type "object")], mro := [(.ref 842), (.type "object")], ns := 841, qualname := "Wheel", hasDict := true, slotNames := [], subclasses := [], abstract := false, collection := none, hasDel := false }
noncomputable def cd_863 : ClassData := { name := "Limits", bases := [(.type "object")], mro := [(.ref 863), (.type "object")], ns := 862, qualname := "Limits", hasDict := true, slotNames := [], subclasses := [], abstract := false, collection := none, hasDel := false }
noncomputable def cd_906 : ClassData := { name := "Tcb", bases := [(.type "object")], mro := [(.ref 906), (.type "object")], ns := 905, qualname := "Tcb", hasDict := true, slotNames := [], subclasses := [], abstract := false, collection := none, hasDel := false }
noncomputable def cd_1142 : ClassData := { name := "Assembly", bases := [(.type "object")], mro := [(.ref 1142), (.type "object")], ns := 1141, qualname := "Assembly", hasDict := true, slotNames := [], subclasses := [], abstract := false, collection := none, hasDel := false }
noncomputable def cd_1276 : ClassData := { name := "Receiver", bases := [(.type "object")], mro := [(.ref 1276), (.type "object")], ns := 1275, qualname := "Receiver", hasDict := true, slotNames := [], subclasses := [], abstract := false, collection := none, hasDel := false }
noncomputable def KF (P : Params) : Frag := [(0, boot_o_0 P), (1, boot_o_1 P),
(3, o3 P "law_pf0404_01" 1988 (ns3 P) 97),
(95, cob "plus" 291 "plus" 292 293 18 3 0 0 90 91 .none (.ref 92) (.ref 93) (.ref 94) 297 18 298),
(96, fob D96),
(102, cob "distance" 300 "distance" 301 302 20 3 0 0 97 98 .none (.ref 99) (.ref 100) (.ref 101) 306 20 307),
(103, fob D103),
(109, cob "is_before" 309 "is_before" 310 311 22 3 0 0 104 105 .none (.ref 106) (.ref 107) (.ref 108) 316 22 317),
(110, fob D110),
(116, cob "is_at_most" 319 "is_at_most" 320 321 25 3 0 0 111 112 .none (.ref 113) (.ref 114) (.ref 115) 325 25 326),
(117, fob D117),
(123, cob "latest" 328 "latest" 329 330 27 3 0 0 118 119 .none (.ref 120) (.ref 121) (.ref 122) 334 27 335),
(124, fob D124),
(137, cob "__init__" 351 "AckPolicy.__init__" 352 353 32 2 0 0 132 133 .none (.ref 134) (.ref 135) (.ref 136) 356 32 357),
(138, fob D138),
(166, cob "on_sent" 384 "AckPolicy.on_sent" 385 386 47 1 0 0 161 162 .none (.ref 163) (.ref 164) (.ref 165) 388 47 389),
(167, fob D167),
(173, cob "due_time" 391 "AckPolicy.due_time" 392 393 51 1 0 0 168 169 .none (.ref 170) (.ref 171) (.ref 172) 395 51 396),
(174, fob D174),
(176, ⟨(.type "dict"), none, (.dict #[ent P "__module__" 346 (.str "thinstack.acks" 337),
 ent P "__firstlineno__" 350 (.int (30) 349),
 ent P "__init__" 358 (.ref 138),
 ent P "on_octets" 368 (.ref 146),
 ent P "at_once" 375 (.ref 153),
 ent P "is_due" 383 (.ref 160),
 ent P "on_sent" 390 (.ref 167),
 ent P "due_time" 397 (.ref 174),
 ent P "__static_attributes__" 402 (.ref 175),
 ent P "__dict__" 404 (.ref 178),
 ent P "__weakref__" 406 (.ref 179),
 ent P "__doc__" 407 .none] 4), #[]⟩),
(177, ⟨(.type "type"), none, (.cls cd_177)
    , #[none, none, (some (.str "AckPolicy" 339)), (some (.str "AckPolicy" 347)), (some (.builtin "object.__new__")), (some (.bool true))]⟩),
(194, cob "__init__" 424 "Congestion.__init__" 425 426 56 4 0 0 189 190 .none (.ref 191) (.ref 192) (.ref 193) 431 56 432),
(195, fob D195),
(201, cob "window" 434 "Congestion.window" 435 436 66 1 0 0 196 197 .none (.ref 198) (.ref 199) (.ref 200) 438 66 439),
(202, fob D202),
(215, cob "halved" 449 "Congestion.halved" 450 451 74 2 0 0 210 211 .none (.ref 212) (.ref 213) (.ref 214) 455 74 456),
(216, fob D216),
(257, cob "timed_out" 498 "Congestion.timed_out" 499 500 110 2 0 0 252 253 .none (.ref 254) (.ref 255) (.ref 256) 503 110 504),
(258, fob D258),
(260, ⟨(.type "dict"), none, (.dict #[ent P "__module__" 419 (.str "thinstack.congestion" 410),
 ent P "__firstlineno__" 423 (.int (54) 422),
 ent P "__init__" 433 (.ref 195),
 ent P "window" 440 (.ref 202),
 ent P "grow" 448 (.ref 209),
 ent P "halved" 457 (.ref 216),
 ent P "acked" 465 (.ref 223),
 ent P "slow_start" 474 (.ref 230),
 ent P "avoid" 482 (.ref 237),
 ent P "duplicate" 490 (.ref 244),
 ent P "recovered" 497 (.ref 251),
 ent P "timed_out" 505 (.ref 258),
 ent P "__static_attributes__" 514 (.ref 259),
 ent P "__dict__" 516 (.ref 262),
 ent P "__weakref__" 518 (.ref 263),
 ent P "__doc__" 519 .none] 4), #[]⟩),
(261, ⟨(.type "type"), none, (.cls cd_261)
    , #[none, none, (some (.str "Congestion" 412)), (some (.str "Congestion" 420)), (some (.builtin "object.__new__")), (some (.bool true))]⟩),
(278, cob "__init__" 538 "RetransmitClock.__init__" 539 540 121 3 0 0 273 274 .none (.ref 275) (.ref 276) (.ref 277) 544 121 545),
(279, fob D279),
(292, cob "sent" 554 "RetransmitClock.sent" 555 556 131 3 0 0 287 288 .none (.ref 289) (.ref 290) (.ref 291) 560 131 561),
(293, fob D293),
(299, cob "forget" 563 "RetransmitClock.forget" 564 565 136 1 0 0 294 295 .none (.ref 296) (.ref 297) (.ref 298) 567 136 568),
(300, fob D300),
(313, cob "back_off" 581 "RetransmitClock.back_off" 582 583 148 1 0 0 308 309 .none (.ref 310) (.ref 311) (.ref 312) 585 148 586),
(314, fob D314),
(327, cob "waited" 595 "RetransmitClock.waited" 596 597 156 1 0 0 322 323 .none (.ref 324) (.ref 325) (.ref 326) 601 156 602),
(328, fob D328),
(334, cob "deadline" 604 "RetransmitClock.deadline" 605 606 162 2 0 0 329 330 .none (.ref 331) (.ref 332) (.ref 333) 609 162 610),
(335, fob D335),
(337, ⟨(.type "dict"), none, (.dict #[ent P "__module__" 533 (.str "thinstack.retransmit" 522),
 ent P "__firstlineno__" 537 (.int (119) 536),
 ent P "__init__" 546 (.ref 279),
 ent P "is_timing" 553 (.ref 286),
 ent P "sent" 562 (.ref 293),
 ent P "forget" 569 (.ref 300),
 ent P "acked" 580 (.ref 307),
 ent P "back_off" 587 (.ref 314),
 ent P "reset_tries" 594 (.ref 321),
 ent P "waited" 603 (.ref 328),
 ent P "deadline" 611 (.ref 335),
 ent P "__static_attributes__" 617 (.ref 336),
 ent P "__dict__" 619 (.ref 339),
 ent P "__weakref__" 621 (.ref 340),
 ent P "__doc__" 622 .none] 4), #[]⟩),
(338, ⟨(.type "type"), none, (.cls cd_338)
    , #[none, none, (some (.str "RetransmitClock" 526)), (some (.str "RetransmitClock" 534)), (some (.builtin "object.__new__")), (some (.bool true))]⟩),
(355, cob "__init__" 639 "RttEstimate.__init__" 640 641 167 4 0 0 350 351 .none (.ref 352) (.ref 353) (.ref 354) 646 167 647),
(356, fob D356),
(376, cob "plain_timeout" 665 "RttEstimate.plain_timeout" 666 667 190 1 0 0 371 372 .none (.ref 373) (.ref 374) (.ref 375) 669 190 670),
(377, fob D377),
(383, cob "timeout" 672 "RttEstimate.timeout" 673 674 195 1 0 0 378 379 .none (.ref 380) (.ref 381) (.ref 382) 676 195 677),
(384, fob D384),
(390, cob "bounded" 679 "RttEstimate.bounded" 680 681 198 2 0 0 385 386 .none (.ref 387) (.ref 388) (.ref 389) 684 198 685),
(391, fob D391),
(393, ⟨(.type "dict"), none, (.dict #[ent P "__module__" 634 (.str "thinstack.rtt" 625),
 ent P "__firstlineno__" 638 (.int (165) 637),
 ent P "__init__" 648 (.ref 356),
 ent P "sample" 657 (.ref 363),
 ent P "mean" 664 (.ref 370),
 ent P "plain_timeout" 671 (.ref 377),
 ent P "timeout" 678 (.ref 384),
 ent P "bounded" 686 (.ref 391),
 ent P "__static_attributes__" 693 (.ref 392),
 ent P "__dict__" 695 (.ref 395),
 ent P "__weakref__" 697 (.ref 396),
 ent P "__doc__" 698 .none] 4), #[]⟩),
(394, ⟨(.type "type"), none, (.cls cd_394)
    , #[none, none, (some (.str "RttEstimate" 627)), (some (.str "RttEstimate" 635)), (some (.builtin "object.__new__")), (some (.bool true))]⟩),
(411, cob "__init__" 715 "SendQueue.__init__" 716 717 205 2 0 0 406 407 .none (.ref 408) (.ref 409) (.ref 410) 720 205 721),
(412, fob D412),
(418, cob "size" 723 "SendQueue.size" 724 725 211 1 0 0 413 414 .none (.ref 415) (.ref 416) (.ref 417) 727 211 728),
(419, fob D419),
(425, cob "room_left" 730 "SendQueue.room_left" 731 732 214 1 0 0 420 421 .none (.ref 422) (.ref 423) (.ref 424) 734 214 735),
(426, fob D426),
(432, cob "put" 737 "SendQueue.put" 738 739 217 2 0 0 427 428 .none (.ref 429) (.ref 430) (.ref 431) 743 217 744),
(433, fob D433),
(439, cob "part" 746 "SendQueue.part" 747 748 222 3 0 0 434 435 .none (.ref 436) (.ref 437) (.ref 438) 752 222 753),
(440, fob D440),
(446, cob "drop" 755 "SendQueue.drop" 756 757 227 2 0 0 441 442 .none (.ref 443) (.ref 444) (.ref 445) 760 227 761),
(447, fob D447),
(449, ⟨(.type "dict"), none, (.dict #[ent P "__module__" 710 (.str "thinstack.send_queue" 701),
 ent P "__firstlineno__" 714 (.int (203) 713),
 ent P "__init__" 722 (.ref 412),
 ent P "size" 729 (.ref 419),
 ent P "room_left" 736 (.ref 426),
 ent P "put" 745 (.ref 433),
 ent P "part" 754 (.ref 440),
 ent P "drop" 762 (.ref 447),
 ent P "__static_attributes__" 765 (.ref 448),
 ent P "__dict__" 767 (.ref 451),
 ent P "__weakref__" 769 (.ref 452),
 ent P "__doc__" 770 .none] 4), #[]⟩),
(450, ⟨(.type "type"), none, (.cls cd_450)
    , #[none, none, (some (.str "SendQueue" 703)), (some (.str "SendQueue" 711)), (some (.builtin "object.__new__")), (some (.bool true))]⟩),
(467, cob "__init__" 787 "PeerWindow.__init__" 788 789 234 2 0 0 462 463 .none (.ref 464) (.ref 465) (.ref 466) 792 234 793),
(468, fob D468),
(474, cob "is_newer" 795 "PeerWindow.is_newer" 796 797 241 3 0 0 469 470 .none (.ref 471) (.ref 472) (.ref 473) 802 241 803),
(475, fob D475),
(481, cob "take" 805 "PeerWindow.take" 806 807 249 4 0 0 476 477 .none (.ref 478) (.ref 479) (.ref 480) 812 249 813),
(482, fob D482),
(484, ⟨(.type "dict"), none, (.dict #[ent P "__module__" 782 (.str "thinstack.sender" 773),
 ent P "__firstlineno__" 786 (.int (232) 785),
 ent P "__init__" 794 (.ref 468),
 ent P "is_newer" 804 (.ref 475),
 ent P "take" 814 (.ref 482),
 ent P "__static_attributes__" 820 (.ref 483),
 ent P "__dict__" 822 (.ref 486),
 ent P "__weakref__" 824 (.ref 487),
 ent P "__doc__" 825 .none] 4), #[]⟩),
(485, ⟨(.type "type"), none, (.cls cd_485)
    , #[none, none, (some (.str "PeerWindow" 775)), (some (.str "PeerWindow" 783)), (some (.builtin "object.__new__")), (some (.bool true))]⟩),
(502, cob "__init__" 840 "Sender.__init__" 841 842 259 5 0 0 497 498 .none (.ref 499) (.ref 500) (.ref 501) 848 259 849),
(503, fob D503),
(509, cob "window" 851 "Sender.window" 852 853 272 1 0 0 504 505 .none (.ref 506) (.ref 507) (.ref 508) 855 272 856),
(510, fob D510),
(511, ⟨(.type "property"), none, (.fields #[(.ref 510), .none, .none, .none, (.str "window" 858), (.bool false)]), #[]⟩),
(517, cob "take_window" 859 "Sender.take_window" 860 861 276 4 0 0 512 513 .none (.ref 514) (.ref 515) (.ref 516) 866 276 867),
(518, fob D518),
(524, cob "put" 869 "Sender.put" 870 871 279 2 0 0 519 520 .none (.ref 521) (.ref 522) (.ref 523) 874 279 875),
(525, fob D525),
(531, cob "ask_fin" 877 "Sender.ask_fin" 878 879 284 1 0 0 526 527 .none (.ref 528) (.ref 529) (.ref 530) 881 284 882),
(532, fob D532),
(538, cob "flight" 884 "Sender.flight" 885 886 287 1 0 0 533 534 .none (.ref 535) (.ref 536) (.ref 537) 888 287 889),
(539, fob D539),
(545, cob "usable" 891 "Sender.usable" 892 893 290 2 0 0 540 541 .none (.ref 542) (.ref 543) (.ref 544) 896 290 897),
(546, fob D546),
(552, cob "data_sent" 899 "Sender.data_sent" 900 901 293 1 0 0 547 548 .none (.ref 549) (.ref 550) (.ref 551) 903 293 904),
(553, fob D553),
(559, cob "unsent" 906 "Sender.unsent" 907 908 296 1 0 0 554 555 .none (.ref 556) (.ref 557) (.ref 558) 910 296 911),
(560, fob D560),
(566, cob "is_fin_due" 913 "Sender.is_fin_due" 914 915 299 1 0 0 561 562 .none (.ref 563) (.ref 564) (.ref 565) 918 299 919),
(567, fob D567),
(573, cob "is_fin_acked" 921 "Sender.is_fin_acked" 922 923 303 1 0 0 568 569 .none (.ref 570) (.ref 571) (.ref 572) 925 303 926),
(574, fob D574),
(587, cob "go_on" 935 "Sender.go_on" 936 937 309 2 0 0 582 583 .none (.ref 584) (.ref 585) (.ref 586) 940 309 941),
(588, fob D588),
(594, cob "start" 943 "Sender.start" 944 945 313 1 0 0 589 590 .none (.ref 591) (.ref 592) (.ref 593) 947 313 948),
(595, fob D595),
(601, cob "may_go" 950 "Sender.may_go" 951 952 320 3 0 0 596 597 .none (.ref 598) (.ref 599) (.ref 600) 956 320 957),
(602, fob D602),
(603, ⟨(.type "tuple"), none, (.seq #[(.bool true)] 0), #[]⟩),
(609, cob "pieces" 959 "Sender.pieces" 960 961 327 3 0 0 604 605 .none (.ref 606) (.ref 607) (.ref 608) 967 327 968),
(610, fob D610),
(616, cob "piece_of" 970 "Sender.piece_of" 971 972 342 3 0 0 611 612 .none (.ref 613) (.ref 614) (.ref 615) 980 342 981),
(617, fob D617),
(623, cob "ever_sent" 983 "Sender.ever_sent" 984 985 351 1 0 0 618 619 .none (.ref 620) (.ref 621) (.ref 622) 987 351 988),
(624, fob D624),
(630, cob "first_piece" 990 "Sender.first_piece" 991 992 354 1 0 0 625 626 .none (.ref 627) (.ref 628) (.ref 629) 997 354 998),
(631, fob D631),
(637, cob "reach" 1000 "Sender.reach" 1001 1002 366 2 0 0 632 633 .none (.ref 634) (.ref 635) (.ref 636) 1005 366 1006),
(638, fob D638),
(644, cob "back_to" 1008 "Sender.back_to" 1009 1010 370 2 0 0 639 640 .none (.ref 641) (.ref 642) (.ref 643) 1013 370 1014),
(645, fob D645),
(651, cob "is_idle_with_more" 1016 "Sender.is_idle_with_more" 1017 1018 375 1 0 0 646 647 .none (.ref 648) (.ref 649) (.ref 650) 1020 375 1021),
(652, fob D652),
(658, cob "needs_probe" 1023 "Sender.needs_probe" 1024 1025 380 1 0 0 653 654 .none (.ref 655) (.ref 656) (.ref 657) 1028 380 1029),
(659, fob D659),
(665, cob "probe" 1031 "Sender.probe" 1032 1033 388 1 0 0 660 661 .none (.ref 662) (.ref 663) (.ref 664) 1035 388 1036),
(666, fob D666),
(672, cob "acked" 1038 "Sender.acked" 1039 1040 399 2 0 0 667 668 .none (.ref 669) (.ref 670) (.ref 671) 1047 399 1048),
(673, fob D673),
(675, ⟨(.type "dict"), none, (.dict #[ent P "__module__" 835 (.str "thinstack.sender" 773),
 ent P "__firstlineno__" 839 (.int (257) 838),
 ent P "__init__" 850 (.ref 503),
 ent P "window" 858 (.ref 511),
 ent P "take_window" 868 (.ref 518),
 ent P "put" 876 (.ref 525),
 ent P "ask_fin" 883 (.ref 532),
 ent P "flight" 890 (.ref 539),
 ent P "usable" 898 (.ref 546),
 ent P "data_sent" 905 (.ref 553),
 ent P "unsent" 912 (.ref 560),
 ent P "is_fin_due" 920 (.ref 567),
 ent P "is_fin_acked" 927 (.ref 574),
 ent P "is_all_acked" 934 (.ref 581),
 ent P "go_on" 942 (.ref 588),
 ent P "start" 949 (.ref 595),
 ent P "may_go" 958 (.ref 602),
 ent P "pieces" 969 (.ref 610),
 ent P "piece_of" 982 (.ref 617),
 ent P "ever_sent" 989 (.ref 624),
 ent P "first_piece" 999 (.ref 631),
 ent P "reach" 1007 (.ref 638),
 ent P "back_to" 1015 (.ref 645),
 ent P "is_idle_with_more" 1022 (.ref 652),
 ent P "needs_probe" 1030 (.ref 659),
 ent P "probe" 1037 (.ref 666),
 ent P "acked" 1049 (.ref 673),
 ent P "__static_attributes__" 1061 (.ref 674),
 ent P "__dict__" 1063 (.ref 677),
 ent P "__weakref__" 1065 (.ref 678),
 ent P "__doc__" 1066 .none] 4), #[]⟩),
(676, ⟨(.type "type"), none, (.cls cd_676)
    , #[none, none, (some (.str "Sender" 828)), (some (.str "Sender" 836)), (some (.builtin "object.__new__")), (some (.bool true))]⟩),
(686, cob "put16" 1071 "put16" 1072 1073 413 1 0 0 681 682 .none (.ref 683) (.ref 684) (.ref 685) 1075 413 1076),
(687, fob D687),
(695, ⟨(.type "tuple"), none, (.seq #[(.int (0) 1106), (.bytes #[] 1107), (.bytes #[] 1108)] 0), #[]⟩),
(701, cob "__init__" 1109 "Segment.__init__" 1110 1111 425 10 0 0 696 697 .none (.ref 698) (.ref 699) (.ref 700) 1122 425 1123),
(702, fob D702),
(722, cob "row" 1140 "Segment.row" 1141 1142 442 1 0 0 717 718 .none (.ref 719) (.ref 720) (.ref 721) 1145 442 1146),
(723, fob D723),
(725, ⟨(.type "dict"), none, (.dict #[ent P "__module__" 1101 (.str "thinstack.tcp_segment" 1078),
 ent P "__firstlineno__" 1105 (.int (423) 1104),
 ent P "__init__" 1124 (.ref 702),
 ent P "has" 1132 (.ref 709),
 ent P "length" 1139 (.ref 716),
 ent P "row" 1147 (.ref 723),
 ent P "__static_attributes__" 1157 (.ref 724),
 ent P "__dict__" 1159 (.ref 727),
 ent P "__weakref__" 1161 (.ref 728),
 ent P "__doc__" 1162 .none] 4), #[]⟩),
(726, ⟨(.type "type"), none, (.cls cd_726)
    , #[none, none, (some (.str "Segment" 1094)), (some (.str "Segment" 1102)), (some (.builtin "object.__new__")), (some (.bool true))]⟩),
(736, cob "check_number" 1165 "check_number" 1166 1167 445 2 0 0 731 732 .none (.ref 733) (.ref 734) (.ref 735) 1170 445 1171),
(737, fob D737),
(743, cob "mss_option" 1173 "mss_option" 1174 1175 448 1 0 0 738 739 .none (.ref 740) (.ref 741) (.ref 742) 1177 448 1178),
(744, fob D744),
(750, cob "opening_steps" 1204 "opening_steps" 1205 1206 463 0 0 0 745 746 .none (.ref 747) (.ref 748) (.ref 749) 1207 463 1208),
(751, fob D751),
(757, cob "closing_steps" 1210 "closing_steps" 1211 1212 465 0 0 0 752 753 .none (.ref 754) (.ref 755) (.ref 756) 1213 465 1214),
(758, fob D758),
(764, cob "follow" 1216 "follow" 1217 1218 467 2 0 0 759 760 .none (.ref 761) (.ref 762) (.ref 763) 1222 467 1223),
(765, fob D765),
(771, cob "may_send" 1225 "may_send" 1226 1227 476 1 0 0 766 767 .none (.ref 768) (.ref 769) (.ref 770) 1229 476 1230),
(772, fob D772),
(778, cob "is_sending" 1232 "is_sending" 1233 1234 478 1 0 0 773 774 .none (.ref 775) (.ref 776) (.ref 777) 1236 478 1237),
(779, fob D779),
(787, ⟨(.type "tuple"), none, (.seq #[(.int (16) 1253)] 0), #[]⟩),
(791, cob "__init__" 1254 "Wheel.__init__" 1255 1256 483 2 0 0 788 789 .none .none .none (.ref 790) 1257 483 1258),
(792, fob D792),
(798, cob "put" 1260 "Wheel.put" 1261 1262 491 3 0 0 793 794 .none (.ref 795) (.ref 796) (.ref 797) 1266 491 1267),
(799, fob D799),
(805, cob "list_of" 1269 "Wheel.list_of" 1270 1271 497 2 0 0 800 801 .none (.ref 802) (.ref 803) (.ref 804) 1274 497 1275),
(806, fob D806),
(812, cob "cancel" 1277 "Wheel.cancel" 1278 1279 502 2 0 0 807 808 .none (.ref 809) (.ref 810) (.ref 811) 1285 502 1286),
(813, fob D813),
(819, cob "time_of" 1288 "Wheel.time_of" 1289 1290 509 2 0 0 814 815 .none (.ref 816) (.ref 817) (.ref 818) 1293 509 1294),
(820, fob D820),
(831, cob "due" 1303 "Wheel.due" 1304 1305 515 2 0 0 828 829 .none .none .none (.ref 830) 1306 515 1307),
(832, fob D832),
(838, cob "keys_until" 1309 "Wheel.keys_until" 1310 1311 527 2 0 0 833 834 .none (.ref 835) (.ref 836) (.ref 837) 1316 527 1317),
(839, fob D839),
(841, ⟨(.type "dict"), none, (.dict #[ent P "__module__" 1248 (.str "thinstack.wheel" 1239),
 ent P "__firstlineno__" 1252 (.int (481) 1251),
 ent P "__init__" 1259 (.ref 792),
 ent P "put" 1268 (.ref 799),
 ent P "list_of" 1276 (.ref 806),
 ent P "cancel" 1287 (.ref 813),
 ent P "time_of" 1295 (.ref 820),
 ent P "next_time" 1302 (.ref 827),
 ent P "due" 1308 (.ref 832),
 ent P "keys_until" 1318 (.ref 839),
 ent P "__static_attributes__" 1325 (.ref 840),
 ent P "__dict__" 1327 (.ref 843),
 ent P "__weakref__" 1329 (.ref 844),
 ent P "__doc__" 1330 .none] 4), #[]⟩),
(842, ⟨(.type "type"), none, (.cls cd_842)
    , #[none, none, (some (.str "Wheel" 1241)), (some (.str "Wheel" 1249)), (some (.builtin "object.__new__")), (some (.bool true))]⟩),
(859, cob "__init__" 1357 "Limits.__init__" 1358 1359 542 11 0 0 854 855 .none (.ref 856) (.ref 857) (.ref 858) 1371 542 1372),
(860, fob D860),
(862, ⟨(.type "dict"), none, (.dict #[ent P "__module__" 1352 (.str "thinstack.tcb" 1333),
 ent P "__firstlineno__" 1356 (.int (540) 1355),
 ent P "__init__" 1373 (.ref 860),
 ent P "__static_attributes__" 1384 (.ref 861),
 ent P "__dict__" 1386 (.ref 864),
 ent P "__weakref__" 1388 (.ref 865),
 ent P "__doc__" 1389 .none] 4), #[]⟩),
(863, ⟨(.type "type"), none, (.cls cd_863)
    , #[none, none, (some (.str "Limits" 1345)), (some (.str "Limits" 1353)), (some (.builtin "object.__new__")), (some (.bool true))]⟩),
(873, cob "clock_of" 1392 "clock_of" 1393 1394 553 1 0 0 868 869 .none (.ref 870) (.ref 871) (.ref 872) 1397 553 1398),
(874, fob D874),
(887, cob "__init__" 1412 "Tcb.__init__" 1413 1414 558 5 0 0 882 883 .none (.ref 884) (.ref 885) (.ref 886) 1420 558 1421),
(888, fob D888),
(894, cob "window_now" 1423 "Tcb.window_now" 1424 1425 574 1 0 0 889 890 .none (.ref 891) (.ref 892) (.ref 893) 1427 574 1428),
(895, fob D895),
(896, ⟨(.type "tuple"), none, (.seq #[(.bytes #[] 1430)] 0), #[]⟩),
(902, cob "make" 1431 "Tcb.make" 1432 1433 579 4 0 0 897 898 .none (.ref 899) (.ref 900) (.ref 901) 1441 579 1442),
(903, fob D903),
(905, ⟨(.type "dict"), none, (.dict #[ent P "__module__" 1407 (.str "thinstack.tcb" 1333),
 ent P "__firstlineno__" 1411 (.int (556) 1410),
 ent P "__init__" 1422 (.ref 888),
 ent P "window_now" 1429 (.ref 895),
 ent P "make" 1443 (.ref 903),
 ent P "__static_attributes__" 1458 (.ref 904),
 ent P "__dict__" 1460 (.ref 907),
 ent P "__weakref__" 1462 (.ref 908),
 ent P "__doc__" 1463 .none] 4), #[]⟩),
(906, ⟨(.type "type"), none, (.cls cd_906)
    , #[none, none, (some (.str "Tcb" 1400)), (some (.str "Tcb" 1408)), (some (.builtin "object.__new__")), (some (.bool true))]⟩),
(916, cob "change_state" 1470 "change_state" 1471 1472 591 2 0 0 911 912 .none (.ref 913) (.ref 914) (.ref 915) 1476 591 1477),
(917, fob D917),
(923, cob "closed" 1479 "closed" 1480 1481 596 2 0 0 918 919 .none (.ref 920) (.ref 921) (.ref 922) 1485 596 1486),
(924, fob D924),
(930, cob "enter_time_wait" 1488 "enter_time_wait" 1489 1490 602 2 0 0 925 926 .none (.ref 927) (.ref 928) (.ref 929) 1494 602 1495),
(931, fob D931),
(937, cob "check_error" 1497 "check_error" 1498 1499 607 1 0 0 932 933 .none (.ref 934) (.ref 935) (.ref 936) 1501 607 1502),
(938, fob D938),
(944, cob "open_active" 1504 "open_active" 1505 1506 612 2 0 0 939 940 .none (.ref 941) (.ref 942) (.ref 943) 1509 612 1510),
(945, fob D945),
(951, cob "send" 1512 "send" 1513 1514 615 3 0 0 946 947 .none (.ref 948) (.ref 949) (.ref 950) 1519 615 1520),
(952, fob D952),
(958, cob "close" 1522 "close" 1523 1524 621 2 0 0 953 954 .none (.ref 955) (.ref 956) (.ref 957) 1527 621 1528),
(959, fob D959),
(965, cob "abort" 1530 "abort" 1531 1532 631 2 0 0 960 961 .none (.ref 962) (.ref 963) (.ref 964) 1536 631 1537),
(966, fob D966),
(972, cob "ack_segment" 1539 "ack_segment" 1540 1541 639 1 0 0 967 968 .none (.ref 969) (.ref 970) (.ref 971) 1543 639 1544),
(973, fob D973),
(979, cob "syn_segment" 1546 "syn_segment" 1547 1548 641 1 0 0 974 975 .none (.ref 976) (.ref 977) (.ref 978) 1550 641 1551),
(980, fob D980),
(986, cob "flags_of" 1553 "flags_of" 1554 1555 643 2 0 0 981 982 .none (.ref 983) (.ref 984) (.ref 985) 1559 643 1560),
(987, fob D987),
(993, cob "take_asked_fin" 1562 "take_asked_fin" 1563 1564 650 1 0 0 988 989 .none (.ref 990) (.ref 991) (.ref 992) 1567 650 1568),
(994, fob D994),
(1000, cob "data_segments" 1570 "data_segments" 1571 1572 655 2 0 0 995 996 .none (.ref 997) (.ref 998) (.ref 999) 1583 655 1584),
(1001, fob D1001),
(1007, cob "output" 1586 "output" 1587 1588 665 2 0 0 1002 1003 .none (.ref 1004) (.ref 1005) (.ref 1006) 1592 665 1593),
(1008, fob D1008),
(1014, cob "keep_timers" 1595 "keep_timers" 1596 1597 676 2 0 0 1009 1010 .none (.ref 1011) (.ref 1012) (.ref 1013) 1600 676 1601),
(1015, fob D1015),
(1021, cob "probe_wait" 1603 "probe_wait" 1604 1605 688 1 0 0 1016 1017 .none (.ref 1018) (.ref 1019) (.ref 1020) 1608 688 1609),
(1022, fob D1022),
(1028, cob "on_time" 1611 "on_time" 1612 1613 691 2 0 0 1023 1024 .none (.ref 1025) (.ref 1026) (.ref 1027) 1618 691 1619),
(1029, fob D1029),
(1035, cob "sent_again" 1621 "sent_again" 1622 1623 706 2 0 0 1030 1031 .none (.ref 1032) (.ref 1033) (.ref 1034) 1628 706 1629),
(1036, fob D1036),
(1042, cob "segment_again" 1631 "segment_again" 1632 1633 718 1 0 0 1037 1038 .none (.ref 1039) (.ref 1040) (.ref 1041) 1639 718 1640),
(1043, fob D1043),
(1049, cob "probed" 1642 "probed" 1643 1644 724 2 0 0 1044 1045 .none (.ref 1046) (.ref 1047) (.ref 1048) 1653 724 1654),
(1050, fob D1050),
(1063, cob "__init__" 1670 "Assembly.__init__" 1671 1672 740 2 0 0 1058 1059 .none (.ref 1060) (.ref 1061) (.ref 1062) 1675 740 1676),
(1064, fob D1064),
(1082, cob "offset" 1691 "Assembly.offset" 1692 1693 750 3 0 0 1077 1078 .none (.ref 1079) (.ref 1080) (.ref 1081) 1697 750 1698),
(1083, fob D1083),
(1089, cob "put" 1700 "Assembly.put" 1701 1702 755 4 0 0 1084 1085 .none (.ref 1086) (.ref 1087) (.ref 1088) 1709 755 1710),
(1090, fob D1090),
(1096, cob "missing" 1712 "Assembly.missing" 1713 1714 765 4 0 0 1091 1092 .none (.ref 1093) (.ref 1094) (.ref 1095) 1726 765 1727),
(1097, fob D1097),
(1103, cob "merged" 1729 "Assembly.merged" 1730 1731 782 3 0 0 1098 1099 .none (.ref 1100) (.ref 1101) (.ref 1102) 1740 782 1741),
(1104, fob D1104),
(1110, cob "joined" 1743 "Assembly.joined" 1744 1745 791 3 0 0 1105 1106 .none (.ref 1107) (.ref 1108) (.ref 1109) 1755 791 1756),
(1111, fob D1111),
(1117, cob "forget" 1758 "Assembly.forget" 1759 1760 802 2 0 0 1112 1113 .none (.ref 1114) (.ref 1115) (.ref 1116) 1766 802 1767),
(1118, fob D1118),
(1124, cob "take" 1769 "Assembly.take" 1770 1771 813 2 0 0 1119 1120 .none (.ref 1121) (.ref 1122) (.ref 1123) 1774 813 1775),
(1125, fob D1125),
(1138, cob "cut_behind" 1790 "Assembly.cut_behind" 1791 1792 828 3 0 0 1133 1134 .none (.ref 1135) (.ref 1136) (.ref 1137) 1801 828 1802),
(1139, fob D1139),
(1141, ⟨(.type "dict"), none, (.dict #[ent P "__module__" 1665 (.str "thinstack.assembly" 1656),
 ent P "__firstlineno__" 1669 (.int (738) 1668),
 ent P "__init__" 1677 (.ref 1064),
 ent P "size" 1683 (.ref 1069),
 ent P "is_empty" 1690 (.ref 1076),
 ent P "offset" 1699 (.ref 1083),
 ent P "put" 1711 (.ref 1090),
 ent P "missing" 1728 (.ref 1097),
 ent P "merged" 1742 (.ref 1104),
 ent P "joined" 1757 (.ref 1111),
 ent P "forget" 1768 (.ref 1118),
 ent P "take" 1776 (.ref 1125),
 ent P "holes" 1789 (.ref 1132),
 ent P "cut_behind" 1803 (.ref 1139),
 ent P "__static_attributes__" 1806 (.ref 1140),
 ent P "__dict__" 1808 (.ref 1143),
 ent P "__weakref__" 1810 (.ref 1144),
 ent P "__doc__" 1811 .none] 4), #[]⟩),
(1142, ⟨(.type "type"), none, (.cls cd_1142)
    , #[none, none, (some (.str "Assembly" 1658)), (some (.str "Assembly" 1666)), (some (.builtin "object.__new__")), (some (.bool true))]⟩),
(1154, ⟨(.type "tuple"), none, (.seq #[(.int (1) 1828)] 0), #[]⟩),
(1160, cob "__init__" 1829 "Receiver.__init__" 1830 1831 839 5 0 0 1155 1156 .none (.ref 1157) (.ref 1158) (.ref 1159) 1837 839 1838),
(1161, fob D1161),
(1167, cob "free_edge" 1840 "Receiver.free_edge" 1841 1842 851 1 0 0 1162 1163 .none (.ref 1164) (.ref 1165) (.ref 1166) 1844 851 1845),
(1168, fob D1168),
(1174, cob "should_tell" 1847 "Receiver.should_tell" 1848 1849 854 2 0 0 1169 1170 .none (.ref 1171) (.ref 1172) (.ref 1173) 1852 854 1853),
(1175, fob D1175),
(1181, cob "told_window" 1855 "Receiver.told_window" 1856 1857 859 1 0 0 1176 1177 .none (.ref 1178) (.ref 1179) (.ref 1180) 1859 859 1860),
(1182, fob D1182),
(1188, cob "window" 1862 "Receiver.window" 1863 1864 864 1 0 0 1183 1184 .none (.ref 1185) (.ref 1186) (.ref 1187) 1866 864 1867),
(1189, fob D1189),
(1195, cob "arrive" 1869 "Receiver.arrive" 1870 1871 869 4 0 0 1190 1191 .none (.ref 1192) (.ref 1193) (.ref 1194) 1879 869 1880),
(1196, fob D1196),
(1202, cob "let_in" 1882 "Receiver.let_in" 1883 1884 881 3 0 0 1197 1198 .none (.ref 1199) (.ref 1200) (.ref 1201) 1889 881 1890),
(1203, fob D1203),
(1209, cob "note_fin" 1892 "Receiver.note_fin" 1893 1894 887 2 0 0 1204 1205 .none (.ref 1206) (.ref 1207) (.ref 1208) 1897 887 1898),
(1210, fob D1210),
(1216, cob "ahead_of_fin" 1900 "Receiver.ahead_of_fin" 1901 1902 892 3 0 0 1211 1212 .none (.ref 1213) (.ref 1214) (.ref 1215) 1906 892 1907),
(1217, fob D1217),
(1223, cob "gather" 1909 "Receiver.gather" 1910 1911 897 1 0 0 1218 1219 .none (.ref 1220) (.ref 1221) (.ref 1222) 1914 897 1915),
(1224, fob D1224),
(1275, ⟨(.type "dict"), none, (.dict #[ent P "__module__" 1823 (.str "thinstack.receiver" 1814),
 ent P "__firstlineno__" 1827 (.int (837) 1826),
 ent P "__init__" 1839 (.ref 1161),
 ent P "free_edge" 1846 (.ref 1168),
 ent P "should_tell" 1854 (.ref 1175),
 ent P "told_window" 1861 (.ref 1182),
 ent P "window" 1868 (.ref 1189),
 ent P "arrive" 1881 (.ref 1196),
 ent P "let_in" 1891 (.ref 1203),
 ent P "note_fin" 1899 (.ref 1210),
 ent P "ahead_of_fin" 1908 (.ref 1217),
 ent P "gather" 1916 (.ref 1224),
 ent P "has_holes" 1923 (.ref 1231),
 ent P "available" 1930 (.ref 1238),
 ent P "read" 1939 (.ref 1245),
 ent P "is_over" 1946 (.ref 1252),
 ent P "read_place" 1954 (.ref 1259),
 ent P "urgent" 1962 (.ref 1266),
 ent P "urgent_left" 1969 (.ref 1273),
 ent P "__static_attributes__" 1980 (.ref 1274),
 ent P "__dict__" 1982 (.ref 1277),
 ent P "__weakref__" 1984 (.ref 1278),
 ent P "__doc__" 1985 .none] 4), #[]⟩),
(1276, ⟨(.type "type"), none, (.cls cd_1276)
    , #[none, none, (some (.str "Receiver" 1816)), (some (.str "Receiver" 1824)), (some (.builtin "object.__new__")), (some (.bool true))]⟩),
(1286, cob "_law_pool" 1990 "_law_pool" 1991 1992 934 2 0 0 1281 1282 .none (.ref 1283) (.ref 1284) (.ref 1285) 1998 934 1999),
(1287, fob D1287),
(1293, cob "_law_take" 2001 "_law_take" 2002 2003 939 2 0 0 1288 1289 .none (.ref 1290) (.ref 1291) (.ref 1292) 2007 939 2008),
(1294, fob D1294),
(1300, cob "_law_one" 2010 "_law_one" 2011 2012 946 2 0 0 1295 1296 .none (.ref 1297) (.ref 1298) (.ref 1299) 2015 946 2016),
(1301, fob D1301),
(1307, cob "_law_made" 2018 "_law_made" 2019 2020 948 3 0 0 1302 1303 .none (.ref 1304) (.ref 1305) (.ref 1306) 2026 948 2027),
(1308, fob D1308),
(1312, cob "_law_times" 2029 "_law_times" 2030 2031 959 1 0 0 1309 1310 .none .none .none (.ref 1311) 2032 959 2033),
(1313, fob D1313),
(1317, cob "_law_given_up_right" 2035 "_law_given_up_right" 2036 2037 961 3 0 0 1314 1315 .none .none .none (.ref 1316) 2038 961 2039),
(1318, fob D1318),
(1324, cob "_law_waits_right" 2041 "_law_waits_right" 2042 2043 969 3 0 0 1319 1320 .none (.ref 1321) (.ref 1322) (.ref 1323) 2048 969 2049),
(1325, fob D1325),
(1331, cob "_law_open" 2051 "_law_open" 2052 2053 976 1 0 0 1326 1327 .none (.ref 1328) (.ref 1329) (.ref 1330) 2056 976 2057),
(1332, fob D1332),
(1336, cob "_law_tries_right" 2059 "_law_tries_right" 2060 2061 985 4 0 0 1333 1334 .none .none .none (.ref 1335) 2062 985 2063),
(1337, fob D1337),
(1343, cob "law" 2065 "law" 2066 2067 1007 1 0 0 1338 1339 .none (.ref 1340) (.ref 1341) (.ref 1342) 2075 1007 2076),
(1344, fob D1344)]
noncomputable def asK : List Nat := [0, 1, 3, 95, 96, 102, 103, 109, 110, 116, 117, 123, 124, 137, 138, 166, 167, 173, 174, 176, 177, 194, 195, 201, 202, 215, 216, 257, 258, 260, 261, 278, 279, 292, 293, 299, 300, 313, 314, 327, 328, 334, 335, 337, 338, 355, 356, 376, 377, 383, 384, 390, 391, 393, 394, 411, 412, 418, 419, 425, 426, 432, 433, 439, 440, 446, 447, 449, 450, 467, 468, 474, 475, 481, 482, 484, 485, 502, 503, 509, 510, 511, 517, 518, 524, 525, 531, 532, 538, 539, 545, 546, 552, 553, 559, 560, 566, 567, 573, 574, 587, 588, 594, 595, 601, 602, 603, 609, 610, 616, 617, 623, 624, 630, 631, 637, 638, 644, 645, 651, 652, 658, 659, 665, 666, 672, 673, 675, 676, 686, 687, 695, 701, 702, 722, 723, 725, 726, 736, 737, 743, 744, 750, 751, 757, 758, 764, 765, 771, 772, 778, 779, 787, 791, 792, 798, 799, 805, 806, 812, 813, 819, 820, 831, 832, 838, 839, 841, 842, 859, 860, 862, 863, 873, 874, 887, 888, 894, 895, 896, 902, 903, 905, 906, 916, 917, 923, 924, 930, 931, 937, 938, 944, 945, 951, 952, 958, 959, 965, 966, 972, 973, 979, 980, 986, 987, 993, 994, 1000, 1001, 1007, 1008, 1014, 1015, 1021, 1022, 1028, 1029, 1035, 1036, 1042, 1043, 1049, 1050, 1063, 1064, 1082, 1083, 1089, 1090, 1096, 1097, 1103, 1104, 1110, 1111, 1117, 1118, 1124, 1125, 1138, 1139, 1141, 1142, 1154, 1160, 1161, 1167, 1168, 1174, 1175, 1181, 1182, 1188, 1189, 1195, 1196, 1202, 1203, 1209, 1210, 1216, 1217, 1223, 1224, 1275, 1276, 1286, 1287, 1293, 1294, 1300, 1301, 1307, 1308, 1312, 1313, 1317, 1318, 1324, 1325, 1331, 1332, 1336, 1337, 1343, 1344]
noncomputable def loose0 : List Str := [.ofString "_wall", .ofString "StackError", .ofString "SizeError", .ofString "StateError", .ofString "ResetError", .ofString "TimedOutError", .ofString "plus", .ofString "distance", .ofString "is_before", .ofString "is_at_most", .ofString "latest", .ofString "AckPolicy", .ofString "Congestion", .ofString "MOST_SHIFT_retransmit", .ofString "RetransmitClock", .ofString "RttEstimate", .ofString "SendQueue", .ofString "PeerWindow", .ofString "Sender", .ofString "put16", .ofString "FIN", .ofString "SYN", .ofString "RST", .ofString "PSH", .ofString "ACK", .ofString "OPTION_MSS", .ofString "MSS_SIZE", .ofString "Segment", .ofString "check_number", .ofString "mss_option", .ofString "CLOSED", .ofString "LISTEN", .ofString "SYN_SENT", .ofString "SYN_RECEIVED", .ofString "ESTABLISHED", .ofString "FIN_WAIT_1", .ofString "FIN_WAIT_2", .ofString "CLOSE_WAIT", .ofString "CLOSING", .ofString "LAST_ACK", .ofString "TIME_WAIT", .ofString "opening_steps", .ofString "closing_steps", .ofString "follow", .ofString "may_send", .ofString "is_sending", .ofString "Wheel", .ofString "RESEND", .ofString "PERSIST", .ofString "DELAYED", .ofString "WAIT", .ofString "MOST_WINDOW", .ofString "Limits", .ofString "clock_of", .ofString "Tcb", .ofString "MOST_SHIFT_tcp_user", .ofString "change_state", .ofString "closed", .ofString "enter_time_wait", .ofString "check_error", .ofString "open_active", .ofString "send", .ofString "close", .ofString "abort", .ofString "ack_segment", .ofString "syn_segment", .ofString "flags_of", .ofString "take_asked_fin", .ofString "data_segments", .ofString "output", .ofString "keep_timers", .ofString "probe_wait", .ofString "on_time", .ofString "sent_again", .ofString "segment_again", .ofString "probed", .ofString "Assembly", .ofString "Receiver", .ofString "_law_pool", .ofString "_law_take", .ofString "_law_one", .ofString "_law_made", .ofString "_law_times", .ofString "_law_given_up_right", .ofString "_law_waits_right", .ofString "_law_open", .ofString "_law_tries_right"]
noncomputable def rows12 : List (Int × Nat) → List Value
  | [] => []
  | (a, b) :: r => .int a 0 :: .int 0 0 :: .ref b :: rows12 r
noncomputable def tab12 : List (Int × Nat) := [(1, 20), (5, 27), (9, 47), (11, 59), (13, 71), (15, 83), (18, 95), (20, 102), (22, 109), (25, 116), (27, 123), (30, 130), (54, 187), (119, 271), (165, 348), (203, 404), (232, 460), (257, 495), (413, 686), (423, 693), (445, 736), (448, 743), (463, 750), (465, 757), (467, 764), (476, 771), (478, 778), (481, 785), (540, 852), (553, 873), (556, 880), (591, 916), (596, 923), (602, 930), (607, 937), (612, 944), (615, 951), (621, 958), (631, 965), (639, 972), (641, 979), (643, 986), (650, 993), (655, 1000), (665, 1007), (676, 1014), (688, 1021), (691, 1028), (706, 1035), (718, 1042), (724, 1049), (738, 1056), (837, 1152), (934, 1286), (939, 1293), (946, 1300), (948, 1307), (959, 1312), (961, 1317), (969, 1324), (976, 1331), (985, 1336), (1007, 1343)]
structure Cut where
  n : Nat
  toks : Nat
  pos : Pos
  o2 : Params → Obj
  o3 : Params → Obj
  o12 : Obj
noncomputable def cut (n t : Nat) (pos : Pos) (x : Str) (tx : Tok) (m k : Nat) : Cut := ⟨n, t, pos, fun P => ⟨.none, none, .dict #[ent P "type.__subclasses__.Exception.0" 221 (.int 38 0), ent P "type.__subclasses__.Exception.n" 222 (.int 1 0)] 2, #[]⟩,
  fun P => o3 P x tx ((ns3 P).take m) (m + 1), ⟨.none, none, .fields ⟨rows12 (tab12.take k)⟩, #[]⟩⟩
noncomputable def cut0 : Cut := ⟨15, 187, p0, boot_o_2, boot_o_3, o12⟩
noncomputable def cut1 : Cut := cut 182 410 ⟨30, 0, 52, 23⟩ "thinstack.acks" 337 20 12
noncomputable def cut2 : Cut := cut 399 701 ⟨165, 0, 201, 56⟩ "thinstack.rtt" 625 24 15
noncomputable def cut3 : Cut := cut 681 1069 ⟨257, 0, 411, 60⟩ "thinstack.sender" 773 27 18
noncomputable def cut4 : Cut := cut 847 1333 ⟨481, 0, 533, 20⟩ "thinstack.wheel" 1239 55 28
noncomputable def cut5 : Cut := cut 1051 1658 ⟨737, 0, 737, 8⟩ "thinstack.assembly" 1656 84 51
noncomputable def cut6 : Cut := cut 1345 2078 ⟨1007, 0, 1018, 93⟩ "law_pf0404_01" 1988 96 63
noncomputable def objAt (c : Cut) (P : Params) (x : Nat → Obj) (i : Nat) : Obj := match Nat.blt i 15 with
  | false => x i
  | true => match Nat.beq i 3 with
    | true => c.o3 P
    | false => match Nat.beq i 12 with
      | true => c.o12
      | false => match Nat.beq i 2 with
        | true => c.o2 P
        | false => ((tree0 P).get i).getD default
noncomputable def mkB (n : Nat) (f : Nat → Obj) : Nat → Nat → Nat → BT
  | 0, _, _ => .nil
  | k + 1, a, b => match Nat.blt b n with
    | true => .node (f b) (mkB n f k (2 * a) (a + b)) (mkB n f k (2 * a) (2 * a + b))
    | false => .nil
noncomputable def envQ (Q : Program) : Env := { scope := Q.main.scope, locals := mainNs, globals := mainNs, cells := [], code := .ref 13, frame := some 14 }
noncomputable def codeQ (Q : Program) : Code := .body (behindTheImports Q) (envQ Q)
noncomputable def qQ (Q : Program) : Program := { Q with main := { Q.main with body := Q.main.body.drop 104 } }
noncomputable def env0 : Env := envQ pw
noncomputable def code0 : Code := codeQ pw
noncomputable def q0 : Program := qQ pw
noncomputable def cutS (c : Cut) (w : World) (os : OsState) (x : Nat → Obj) : SharedT := ⟨mkB c.n (objAt c w.params x) 12 1 0, c.n, {}, #[], boot_drawn, c.toks, os⟩
noncomputable def runC (Q : Program) (w : World) (os : OsState) (x : Nat → Obj) (c : Cut) (lo k N : Nat) : Option (Flow × SharedT × Code × Pos) := segRunT treeTable Q w 11 ann0 1 N (cutS c w os x) (piecesOf (((behindTheImports Q).drop lo).take k) (envQ Q) (codeQ Q) c.pos [topFrame p0])
noncomputable def nextX (Q : Program) (w : World) (os : OsState) (x : Nat → Obj) (c : Cut) (lo k N : Nat) (i : Nat) : Obj := ((runC Q w os x c lo k N).bind fun r => r.2.1.tree.get i).getD default
noncomputable def asKb (n : Nat) : List Nat := asK.filter fun a => Nat.blt a n && Nat.ble 15 a
noncomputable abbrev Xt0 (_ : Shared) : Bool := true
noncomputable abbrev Yf0 (s : Shared) : List (Option Obj) := asK.map s.heap.get?
noncomputable abbrev Ya0 (w : World) : List (Option Obj) := (KF w.params).map fun p => some p.2
noncomputable def lookQ (Q : Program) (L : List Str) (P : Params) (s : Shared) := ((staticsOk (importedModules Q.main.body) (boot_heap P) s.heap && namesBound Q s.heap && gensDone s && laidKept (boot_heap P) s.heap), openSeen (qQ Q) L (importedModules Q.main.body) Xt0 true s)
noncomputable def useT {α : Type} (_ : α) : Bool := true
noncomputable def lhsC (Q : Program) (w : World) (os : OsState) (x : Nat → Obj) (c d : Cut) (lo k N : Nat) := (runC Q w os x c lo k N).map fun r => (r.1, r.2.1, r.2.2, (asKb d.n).map r.2.1.tree.get)
noncomputable def rhsC (Q : Program) (K : Params → Frag) (w : World) (os : OsState) (x : Nat → Obj) (c d : Cut) (lo k N : Nat) := some (Flow.next, cutS d w os (nextX Q w os x c lo k N), (codeQ Q, d.pos), (asKb d.n).map fun a => match Nat.blt a c.n with
  | true => some (x a)
  | false => (K w.params).lookup a)
noncomputable def lhsL (Q : Program) (L : List Str) (w : World) (os : OsState) (x : Nat → Obj) (c : Cut) (lo k N : Nat) := (runC Q w os x c lo k N).map fun r => lookQ Q L w.params r.2.1.abs
noncomputable def rhsL (Q : Program) (L : List Str) := some (true, openGood (qQ Q) L)
set_option Elab.async true in
theorem hq : (useT lhsC && useT rhsC && useT lhsL && useT rhsL) = true := by k_qdec
end Mine
end
set_option Elab.async false
section
open PySem PySem.W
namespace Mine
theorem pc0 (w : World) (os : OsState) (x : Nat → Obj) : hq.tw1488876730418417872 pw w os x cut0 cut1 0 15 1690 = hq.tw12026190510637176586 pw KF w os x cut0 cut1 0 15 1690 := by kernel_rfl
theorem pc1 (w : World) (os : OsState) (x : Nat → Obj) : hq.tw1488876730418417872 pw w os x cut1 cut2 15 7 1440 = hq.tw12026190510637176586 pw KF w os x cut1 cut2 15 7 1440 := by kernel_rfl
theorem pc2 (w : World) (os : OsState) (x : Nat → Obj) : hq.tw1488876730418417872 pw w os x cut2 cut3 22 5 1780 = hq.tw12026190510637176586 pw KF w os x cut2 cut3 22 5 1780 := by kernel_rfl
theorem pc3 (w : World) (os : OsState) (x : Nat → Obj) : hq.tw1488876730418417872 pw w os x cut3 cut4 27 32 1230 = hq.tw12026190510637176586 pw KF w os x cut3 cut4 27 32 1230 := by kernel_rfl
theorem pc4 (w : World) (os : OsState) (x : Nat → Obj) : hq.tw1488876730418417872 pw w os x cut4 cut5 59 32 1300 = hq.tw12026190510637176586 pw KF w os x cut4 cut5 59 32 1300 := by kernel_rfl
theorem pc5 (w : World) (os : OsState) (x : Nat → Obj) : hq.tw1488876730418417872 pw w os x cut5 cut6 91 14 1700 = hq.tw12026190510637176586 pw KF w os x cut5 cut6 91 14 1700 := by kernel_rfl
theorem lk5 (w : World) (os : OsState) (x : Nat → Obj) : hq.tw14441987614628006583 pw loose0 w os x cut5 91 14 1700 = rhsL pw loose0 := by kernel_rfl
end Mine
end
section
open PySem PySem.W PySem.Calls PyProof.Rows
namespace Mine
theorem noRoad_app (lk : Look) (b : List Stmt) : ∀ a : List Stmt, noRoadLSs lk (a ++ b) = (noRoadLSs lk a && noRoadLSs lk b)
  | [] => by
    rw [noRoadLSs, List.nil_append, Bool.true_and]
  | s :: r => by
    rw [List.cons_append, noRoadLSs, noRoadLSs, noRoad_app lk b r, Bool.and_assoc]
theorem noRoad_split (lk : Look) (l : List Stmt) (k : Nat) (h1 : PySem.W.Fast.tw8326940854005059898 lk (l.take k) = true) (h2 : PySem.W.Fast.tw8326940854005059898 lk (l.drop k) = true) : PySem.W.Fast.tw8326940854005059898 lk l = true := by
  rw [← PySem.W.Fast.te8326940854005059898] at h1 h2 ⊢
  rw [← List.take_append_drop k l, noRoad_app, h1, h2]
  rfl
theorem noRoad_bare {st : Bool} {ft : Option (List Str)} {br : List Str} {l : List Stmt} (h : br = []) (h1 : PySem.W.Fast.tw8326940854005059898 { strict := st, foot := ft, bare := [] } l = true) : PySem.W.Fast.tw8326940854005059898 { strict := st, foot := ft, bare := br } l = true := by
  subst h
  exact h1
theorem filter3 {α : Type} (f : α → Bool) (a b c : α) (h1 : f a = false) (h2 : f b = false) (h3 : f c = false) : R.filterR f [a, b, c] = [] := by
  rw [← R.filterR_eq]
  simp [h1, h2, h3]
set_option maxHeartbeats 40000000 in
theorem saidA : PySem.W.Fast.tw9446332074065402090 PySem.Challenge.rw_pf0404_01 = true := by
  unfold PySem.W.Fast.tw9446332074065402090
  unfold PySem.W.Fast.tw17960256430627541270
  unfold PySem.W.Fast.tw2436336058641802641
  unfold PySem.W.Fast.tw12908688711261696721
  repeat' with_reducible apply look_both
  rotate_left 4
  · refine noRoad_bare (filter3 _ _ _ _ ?_ ?_ ?_) (noRoad_split _ _ 26 ?_ ?_)
    all_goals decide +kernel
  all_goals decide +kernel
theorem said : PySem.Challenge.rw_pf0404_01.wellSaid = true := (congrFun PySem.W.Fast.te9446332074065402090 PySem.Challenge.rw_pf0404_01).trans saidA
theorem pre0 (w : World) (os : OsState) : topGo treeTable pw w 11 ann0 12 ⟨boot_heap w.params, Array.mk [], boot_drawn, boot_toks, os⟩ (topStub pw) =
    some (⟨absHeap (tree0 w.params) 15 {}, #[], boot_drawn, 187, os⟩, ⟨denote treeTable code0, code0, p0, [topFrame p0]⟩) := by kernel_rfl
theorem block0 (w : World) (s : Shared) : segRun treeTable pw w 11 ann0 1 1 s (blockOf (behindTheImports pw) env0 code0 p0 [topFrame p0]) = some (.next, s, code0, p0) := by kernel_rfl
theorem fin0 (w : World) (s : Shared) (p : Pos) : topRun treeTable pw w 11 ann0 10 s ⟨doneF .next, code0, p, [topFrame p0]⟩ = some s := by kernel_rfl
theorem size0 (w : World) : ((boot_heap w.params).isNs mainGlobals && (Array.mk [] : Array GenState).size == 0, (boot_heap w.params).objs.size, (boot_heap w.params).nsMap mainGlobals "__annotations__") = (true, 11, ann0) := by kernel_rfl
theorem open0 : opening pw = plainProg pw.main.scope.names := by kernel_rfl
theorem fence0 : ∀ s, fenceModules? pw s = some s := fun s => by kernel_rfl
theorem asK0 (P : Params) : asK = (KF P).map (·.1) := by kernel_rfl
noncomputable def okAt (p : Nat × Obj) : Bool := Nat.blt p.1 1345 && match p.2 with | ⟨_, _, .freed, _⟩ => false | _ => true
theorem okK (P : Params) : (KF P).all okAt = true := by kernel_rfl
theorem two {w : World} {os : OsState} {x : Nat → Obj} {c d : Cut} {lo k N : Nat} (h : hq.tw1488876730418417872 pw w os x c d lo k N = hq.tw12026190510637176586 pw KF w os x c d lo k N) : lhsC pw w os x c d lo k N = rhsC pw KF w os x c d lo k N := by
  rw [hq.te1488876730418417872, hq.te12026190510637176586]
  exact h
theorem stepC {w : World} {os : OsState} {x : Nat → Obj} {c d : Cut} {lo k N : Nat} (h : lhsC pw w os x c d lo k N = rhsC pw KF w os x c d lo k N) : runC pw w os x c lo k N = some (.next, cutS d w os (nextX pw w os x c lo k N), code0, d.pos) ∧
    ∀ a ∈ asKb d.n, (cutS d w os (nextX pw w os x c lo k N)).tree.get a = match Nat.blt a c.n with
      | true => some (x a)
      | false => (KF w.params).lookup a := by
  unfold lhsC rhsC at h
  obtain ⟨⟨f, s', c', p'⟩, h1, h2⟩ := Option.map_eq_some_iff.mp h
  simp only [Prod.mk.injEq] at h2
  obtain ⟨e1, e2, ⟨e3, e4⟩, hl⟩ := h2
  subst e1 e3 e4
  refine ⟨by rw [← e2]; exact h1, ?_⟩
  rw [← e2]
  exact List.map_inj_left.mp hl
noncomputable def Inv (w : World) (n : Nat) (x : Nat → Obj) : Prop := ∀ a ∈ asKb n, some (x a) = (KF w.params).lookup a
theorem kf_some (P : Params) : asK.all (fun a => ((KF P).lookup a).isSome) = true := by kernel_rfl
theorem getC {w : World} {os : OsState} {x : Nat → Obj} {c d : Cut} {lo k N : Nat} (h : lhsC pw w os x c d lo k N = rhsC pw KF w os x c d lo k N) (I : Inv w c.n x) : ∀ a ∈ asKb d.n, (cutS d w os (nextX pw w os x c lo k N)).tree.get a = (KF w.params).lookup a := by
  intro a ha
  rw [(stepC h).2 a ha]
  cases hb : Nat.blt a c.n with
  | false => rfl
  | true =>
    obtain ⟨h1, h2⟩ := List.mem_filter.mp ha
    exact I a (List.mem_filter.mpr ⟨h1, by rw [hb, (Bool.and_eq_true_iff.mp h2).2]; rfl⟩)
theorem inv_next {w : World} {os : OsState} {x : Nat → Obj} {c d : Cut} {lo k N : Nat} (h : lhsC pw w os x c d lo k N = rhsC pw KF w os x c d lo k N) (I : Inv w c.n x) : Inv w d.n (nextX pw w os x c lo k N) := by
  intro a ha
  have g := getC h I a ha
  obtain ⟨o, ho⟩ := Option.isSome_iff_exists.mp (List.all_eq_true.mp (kf_some w.params) a (List.mem_filter.mp ha).1)
  rw [ho] at g
  rw [ho]
  unfold nextX
  rw [(stepC h).1]
  show some (((cutS d w os (nextX pw w os x c lo k N)).tree.get a).getD default) = some o
  rw [g]
  rfl
theorem td {α : Type} (l : List α) (lo k : Nat) : (l.drop lo).take k ++ l.drop (lo + k) = l.drop lo := by
  rw [← List.drop_drop]
  exact List.take_append_drop k _
theorem goC {w : World} {os : OsState} {x : Nat → Obj} {c d : Cut} {lo k N M : Nat} {r : Shared} (h : lhsC pw w os x c d lo k N = rhsC pw KF w os x c d lo k N)
    (rest : topRun treeTable pw w 11 ann0 M (cutS d w os (nextX pw w os x c lo k N)).abs (restOf ((behindTheImports pw).drop (lo + k)) env0 code0 d.pos [topFrame p0]) = some r) :
    topRun treeTable pw w 11 ann0 (N + M) (cutS c w os x).abs (restOf ((behindTheImports pw).drop lo) env0 code0 c.pos [topFrame p0]) = some r := by
  have g := piece_app (rest := (behindTheImports pw).drop (lo + k)) (segRun_of (stepC h).1) rest
  rw [td] at g
  exact g
theorem b105 : (behindTheImports pw).drop 105 = [] := by kernel_rfl
theorem start0 (w : World) (os : OsState) (x : Nat → Obj) : (cutS cut0 w os x).abs = ⟨absHeap (tree0 w.params) 15 {}, #[], boot_drawn, 187, os⟩ := by kernel_rfl
theorem asK_split : asK = [0, 1, 3] ++ asKb 1345 := by kernel_rfl
theorem low (w : World) (os : OsState) (x : Nat → Obj) : [0, 1, 3].map (cutS cut6 w os x).tree.get = [0, 1, 3].map (fun a => (KF w.params).lookup a) := by kernel_rfl
theorem ya_lookup (P : Params) : (KF P).map (fun p => some p.2) = asK.map (fun a => (KF P).lookup a) := by kernel_rfl
noncomputable def x5 (w : World) (os : OsState) : Nat → Obj := nextX pw w os (nextX pw w os (nextX pw w os (nextX pw w os (nextX pw w os (fun _ => default) cut0 0 15 1690) cut1 15 7 1440) cut2 22 5 1780) cut3 27 32 1230) cut4 59 32 1300
theorem ran0 (w : World) (os : OsState) : ∃ sT : SharedT, topRun treeTable pw w 11 ann0 9163 ⟨boot_heap w.params, Array.mk [], boot_drawn, boot_toks, os⟩ (topStub pw) = some sT.abs ∧ sT.n = 1345 ∧ asK.map sT.tree.get = Ya0 w ∧ lookQ pw loose0 w.params sT.abs = (true, openGood q0 loose0) := by
  have I0 : Inv w cut0.n (fun _ => default) := fun a ha => by
    obtain ⟨h1, h2⟩ := Bool.and_eq_true_iff.mp (List.mem_filter.mp ha).2
    have h1 : a < 15 := Nat.le_of_ble_eq_true h1
    have h2 : 15 ≤ a := Nat.le_of_ble_eq_true h2
    omega
  have t0 := two (pc0 w os fun _ => default)
  have I1 := inv_next t0 I0
  have I2 := inv_next (two (pc1 w os _)) I1
  have I3 := inv_next (two (pc2 w os _)) I2
  have I4 := inv_next (two (pc3 w os _)) I3
  have I5 := inv_next (two (pc4 w os _)) I4
  have t5 := two (pc5 w os (x5 w os))
  have L := lk5 w os (x5 w os)
  rw [← hq.te14441987614628006583] at L
  unfold lhsL rhsL at L
  rw [(stepC t5).1] at L
  refine ⟨_, ?_, rfl, ?_, Option.some.inj L⟩
  · have f0 := fin0 w (cutS cut6 w os (nextX pw w os (x5 w os) cut5 91 14 1700)).abs cut6.pos
    have k := goC t0 (goC (two (pc1 w os _)) (goC (two (pc2 w os _)) (goC (two (pc3 w os _)) (goC (two (pc4 w os _)) (goC t5 (by rw [b105]; exact piece_nil f0))))))
    rw [start0] at k
    exact go_top (n := 12) (N := 9151) (pre0 w os) (piece_block (n := 1) (N := 9150) (block0 w _) k)
  · show _ = (KF w.params).map fun p => some p.2
    rw [ya_lookup, asK_split, List.map_append, List.map_append, low]
    exact congrArg _ (List.map_inj_left.mpr (getC t5 I5))
theorem LeftO.of_run {p q : Program} {loose : List Str} {Xt : Shared → Bool} {α : Type} {Yf : Shared → α} {Ya : World → α} {N : Nat} {g0 : Bool} {H₀ : Params → Heap} {gs₀ : Array GenState} {d₀ : Drawn} {k₀ : Nat} {m₀ : Nat} {ann : Option Value} {M : Nat}
    (open_ : ∀ w : World, (fencedOpening treeTable p w N).map (fun s => (s.heap, s.gens, s.drawn, s.toks)) = some (H₀ w.params, gs₀, d₀, k₀))
    (size : ∀ w : World, ((H₀ w.params).isNs mainGlobals && gs₀.size == 0, (H₀ w.params).objs.size, (H₀ w.params).nsMap mainGlobals "__annotations__") = (true, m₀, ann)) (le : Nat.ble M N = true)
    (run : ∀ (w : World) (os : OsState), ∃ s, topRun treeTable p w m₀ ann M ⟨H₀ w.params, gs₀, d₀, k₀, os⟩ (topStub p) = some s ∧
      (staticsOk (importedModules p.main.body) (H₀ w.params) s.heap && namesBound p s.heap && gensDone s && laidKept (H₀ w.params) s.heap) = true ∧ openSeen q loose (importedModules p.main.body) Xt g0 s = openGood q loose ∧ Yf s = Ya w) : LeftO p q loose Xt Yf Ya N g0 := fun w => by
  obtain ⟨⟨h, gs, d, k, os⟩, e, e'⟩ := Option.map_eq_some_iff.mp (open_ w)
  obtain ⟨rfl, rfl, rfl, rfl⟩ : h = H₀ w.params ∧ gs = gs₀ ∧ d = d₀ ∧ k = k₀ := by simpa using e'
  obtain ⟨z1, z2, z3⟩ : _ ∧ _ ∧ _ := by simpa only [Prod.mk.injEq] using size w
  obtain ⟨s₁, r0, l1, l2, l3⟩ := run w os
  have r := topRun_mono (N - M) _ _ _ _ r0
  rw [show M + (N - M) = N by have := Nat.le_of_ble_eq_true le; omega] at r
  have t : topFrom treeTable p w N ⟨H₀ w.params, gs, d, k, os⟩ = some s₁ := by
    unfold topFrom
    dsimp only
    rw [z1, z2, z3, r]
    show (match staticsOk (importedModules p.main.body) (H₀ w.params) s₁.heap && namesBound p s₁.heap && gensDone s₁ && laidKept (H₀ w.params) s₁.heap with | true => _ | false => _) = _
    rw [l1]
  unfold openEnds
  rw [e]
  show (topFrom treeTable p w N _).map _ = _
  rw [t]
  exact congrArg some (Prod.ext l2 l3)
theorem get_alive {T : BT} {n : Nat} {life : Life} {a : Nat} {o : Obj} (g : T.get a = some o) (ok : okAt (a, o) = true) (hn : n = 1345) : (absHeap T n life).get? a = some o := by
  subst hn
  obtain ⟨h1, h2⟩ := Bool.and_eq_true_iff.mp ok
  have h1 : a < 1345 := Nat.le_of_ble_eq_true h1
  rw [abs_get h1 g]
  obtain ⟨c, d, dt, sl⟩ := o
  cases dt <;> first | rfl | cases h2
theorem look_all {T : BT} {n : Nat} {life : Life} (hn : n = 1345) : ∀ {K : List (Nat × Obj)} {as : List Nat}, as = K.map (·.1) → as.map T.get = K.map (fun p => some p.2) → K.all okAt = true → as.map (absHeap T n life).get? = K.map fun p => some p.2
  | [], _, rfl, _, _ => rfl
  | (a, o) :: K, _, rfl, h, ok => by
    simp only [List.map_cons, List.cons.injEq, List.all_cons, Bool.and_eq_true] at h ok ⊢
    exact ⟨get_alive h.1 ok.1 hn, look_all hn rfl h.2 ok.2⟩
theorem left0 : LeftO pw q0 loose0 Xt0 Yf0 Ya0 9300 := by
  refine LeftO.of_run (M := 9163) (boot_open open0 (by decide) fence0) size0 (by decide) fun w os => ?_
  obtain ⟨sT, h, hn, hy, hl⟩ := ran0 w os
  refine ⟨sT.abs, h, congrArg (·.1) hl, congrArg (·.2) hl, ?_⟩
  exact look_all hn (asK0 _) hy (okK _)
noncomputable def theLaw : OpenLaw := PySem.Challenge.rw_pf0404_01
theorem reads_len {cl : Str → Option Addr} {h : Heap} : ∀ {vs : List Value} {xs : List WData} {as : List Addr}, ReadsAllW [] cl h vs xs as → vs.length = xs.length := by
  intro vs
  induction vs with
  | nil => intro xs as r; cases r; rfl
  | cons v0 vs ih => intro xs as r; cases r with | cons r1 r2 => simp [ih r2]
theorem ints_of {cl : Str → Option Addr} {h : Heap} : ∀ {vs : List Value} {xs : List WData} {as : List Addr}, ReadsAllW [] cl h vs xs as → (∀ x ∈ xs, WShape.has [] x .int = true) → ∀ v ∈ vs, ∃ i u, v = .int i u := by
  intro vs
  induction vs with
  | nil => intro xs as r hx v hv; cases hv
  | cons v0 vs ih =>
    intro xs as r hx v hv
    cases r with
    | cons r1 r2 =>
      rename_i d ds as1 bs
      rcases List.mem_cons.mp hv with rfl | hv
      · have := hx d (by simp)
        cases r1 <;> first | exact ⟨_, _, rfl⟩ | (simp [WShape.has, WShape.arms] at this; done)
      · exact ih r2 (fun x hx' => hx x (List.mem_cons_of_mem _ hx')) v hv
theorem items_all : ∀ {xs : List WData}, WShape.hasItems [] xs .int = true → ∀ x ∈ xs, WShape.has [] x .int = true
  | [], _, x, hx => by cases hx
  | y :: ys, h, x, hx => by
    obtain ⟨h1, h2⟩ := Bool.and_eq_true_iff.mp h
    rcases List.mem_cons.mp hx with rfl | hx
    · exact h1
    · exact items_all h2 x hx
theorem arg_of {cl : Str → Option Addr} {h : Heap} {v : Value} {d : WData} {as : List Addr} (r : ReadsW [] cl h v d as) (hd : WShape.has [] d (.list .int) = true) : ∃ b ol items z xs, v = .ref b ∧ d = .list xs ∧ h.get? b = some ol ∧ ol.cls = .type "list" ∧ ol.data = .seq items z ∧ items.size = xs.length ∧ ∀ v, items[0]? = some v → ∃ i u, v = .int i u := by
  cases r <;> first | (simp [WShape.has, WShape.arms] at hd; done) | skip
  rename_i a o vs n xs as g hc hdt rr
  refine ⟨_, _, _, _, _, rfl, rfl, g, hc, hdt, by rw [← reads_len rr]; simp, fun v hv => ints_of rr (fun x hx => ?_) v ?_⟩
  · obtain ⟨ys, q, hi⟩ := hasW_list hd
    cases q
    exact items_all hi x hx
  · exact Array.mem_toList_iff.mpr (Array.mem_of_getElem? hv)
theorem pre_len {xs : List WData} (h : theLaw.pre.holds [] { args := [.list xs] } = true) : xs.length ≤ 63 := by
  have e : theLaw.pre = .and (.not (.lt (.lit (.int 63)) (.len (.arg 0)))) (.lit (.bool true)) := rfl
  rw [e] at h
  simp [WTm.holds, WTm.value] at h
  have q : less? (WData.int 63) (WData.int xs.length) = some (decide ((63 : Int) < xs.length)) := rfl
  rw [q] at h
  by_cases z : (63 : Int) < xs.length
  · rw [decide_eq_true z] at h
    cases h
  · omega
end Mine
end
section
namespace Mine
inductive AV | none | tt | ff | int (i : Int) | vec (t : Nat) (l : List Int) | str (s : Nat) | bytes (l : List Nat) | own (i : Nat)
inductive FL | nil | cons (x : Nat) (v : AV) (r : FL)
inductive AO | inst (C : Nat) (fs : FL) | list (xs : List AV) | tup (xs : List AV) | dict (es : List (Int × AV)) | dictT (es : List (List Nat × AV)) | barr (l : List Nat) | range (a b : Int) | it (i : Nat) (j : Nat) | src
inductive T | nil | node (v : AO) (l r : T)
inductive MK | nil | cons (t : Nat) (l : List Bool) (r : MK)
structure St where
  hp : T
  nx : Nat
  lo : FL
  ms : MK
noncomputable abbrev K := AV → St → Bool
noncomputable abbrev KB := Bool → St → Bool
noncomputable abbrev KS := St → Bool
noncomputable abbrev KL := List AV → St → Bool
noncomputable abbrev M := St → K → Bool
noncomputable abbrev MB := St → KB → Bool
noncomputable abbrev ML := St → KL → Bool
noncomputable abbrev MX := St → KS → KS → KS → K → Bool
noncomputable abbrev MT := AV → St → KS → Bool
noncomputable abbrev MF := List AV → St → K → Bool
noncomputable def br (b x y : Bool) : Bool := @Bool.rec (fun _ => Bool) y x b
noncomputable def T.get (t : T) : Nat → (AO → Bool) → Bool :=
  @T.rec (fun _ => Nat → (AO → Bool) → Bool) (fun _ _ => false)
    (fun v _ _ gl gr i k => @Bool.rec (fun _ => Bool) (@Bool.rec (fun _ => Bool) (gr (Nat.sub (Nat.div i 2) 1) k) (gl (Nat.div i 2) k) (Nat.beq (Nat.mod i 2) 1)) (k v) (Nat.beq i 0)) t
noncomputable def putNil (i : Nat) (o : AO) (k : T → Bool) : Bool := @Bool.rec (fun _ => Bool) false (k (.node o .nil .nil)) (Nat.beq i 0)
noncomputable def T.put (t : T) : Nat → AO → (T → Bool) → Bool :=
  @T.rec (fun _ => Nat → AO → (T → Bool) → Bool) putNil
    (fun v l r pl pr i o k => @Bool.rec (fun _ => Bool) (@Bool.rec (fun _ => Bool) (pr (Nat.sub (Nat.div i 2) 1) o (fun r' => k (.node v l r'))) (pl (Nat.div i 2) o (fun l' => k (.node v l' r))) (Nat.beq (Nat.mod i 2) 1)) (k (.node o l r)) (Nat.beq i 0)) t
noncomputable def forceN (n : Nat) (k : Nat → Bool) : Bool := @Nat.rec (fun _ => Bool) (k 0) (fun m _ => k (Nat.succ m)) n
noncomputable def forceI (i : Int) (k : Int → Bool) : Bool := @Int.rec (fun _ => Bool) (fun n => forceN n fun n => k (.ofNat n)) (fun n => forceN n fun n => k (.negSucc n)) i
noncomputable def forceIs (l : List Int) : (List Int → Bool) → Bool :=
  @List.rec Int (fun _ => (List Int → Bool) → Bool) (fun k => k []) (fun x _ ih k => forceI x fun x => ih fun r => k (x :: r)) l
noncomputable def eqb (a b : Int) : Bool := @Int.rec (fun _ => Bool) (fun m => @Int.rec (fun _ => Bool) (fun n => Nat.beq m n) (fun _ => false) b) (fun m => @Int.rec (fun _ => Bool) (fun _ => false) (fun n => Nat.beq m n) b) a
noncomputable def ltb (a b : Int) : Bool := @Int.rec (fun _ => Bool) (fun m => @Int.rec (fun _ => Bool) (fun n => Nat.ble (Nat.succ m) n) (fun _ => false) b) (fun m => @Int.rec (fun _ => Bool) (fun _ => true) (fun n => Nat.ble (Nat.succ n) m) b) a
noncomputable def leb (a b : Int) : Bool := @Int.rec (fun _ => Bool) (fun m => @Int.rec (fun _ => Bool) (fun n => Nat.ble m n) (fun _ => false) b) (fun m => @Int.rec (fun _ => Bool) (fun _ => true) (fun n => Nat.ble n m) b) a
noncomputable def gtb (a b : Int) : Bool := ltb b a
noncomputable def geb (a b : Int) : Bool := leb b a
noncomputable def addI (a b : Int) : Int := @Int.rec (fun _ => Int) (fun m => @Int.rec (fun _ => Int) (fun n => .ofNat (Nat.add m n)) (fun n => Int.add (.ofNat m) (.negSucc n)) b) (fun m => Int.add (.negSucc m) b) a
noncomputable def modI (a b : Int) : Int := @Int.rec (fun _ => Int) (fun m => @Int.rec (fun _ => Int) (fun n => .ofNat (Nat.mod m n)) (fun n => Int.fmod (.ofNat m) (.negSucc n)) b) (fun m => Int.fmod (.negSucc m) b) a
noncomputable def allSame (x : Int) (l : List Int) : Bool := @List.rec Int (fun _ => Bool) true (fun y _ ih => br (eqb x y) ih false) l
noncomputable def mkVec (t : Nat) (l : List Int) (k : AV → Bool) : Bool := forceIs l fun l => @List.rec Int (fun _ => Bool) false (fun x r _ => br (allSame x r) (k (.int x)) (k (.vec t (x :: r)))) l
noncomputable def mapI (f : Int → Int) (l : List Int) : List Int := @List.rec Int (fun _ => List Int) [] (fun x _ ih => f x :: ih) l
noncomputable def zipI (f : Int → Int → Int) (l : List Int) : List Int → List Int :=
  @List.rec Int (fun _ => List Int → List Int) (fun _ => []) (fun x _ ih l' => @List.rec Int (fun _ => List Int) [] (fun y r _ => f x y :: ih r) l') l
noncomputable def iopI (f : Int → Int → Int) (x : Int) (b : AV) (k : AV → Bool) : Bool :=
  @AV.rec (fun _ => Bool) false false false (fun y => forceI (f x y) fun z => k (.int z)) (fun t l => mkVec t (mapI (f x) l) k) (fun _ => false) (fun _ => false) (fun _ => false) b
noncomputable def iopV (f : Int → Int → Int) (t : Nat) (l : List Int) (b : AV) (k : AV → Bool) : Bool :=
  @AV.rec (fun _ => Bool) false false false (fun y => mkVec t (mapI (fun x => f x y) l) k) (fun t' l' => br (Nat.beq t t') (mkVec t (zipI f l l') k) false) (fun _ => false) (fun _ => false) (fun _ => false) b
noncomputable def iop (f : Int → Int → Int) (a b : AV) (k : AV → Bool) : Bool :=
  @AV.rec (fun _ => Bool) false false false (fun x => iopI f x b k) (fun t l => iopV f t l b k) (fun _ => false) (fun _ => false) (fun _ => false) a
noncomputable def MK.get (m : MK) : Nat → (List Bool → Bool) → Bool :=
  @MK.rec (fun _ => Nat → (List Bool → Bool) → Bool) (fun _ _ => false) (fun t l _ ih x k => br (Nat.beq x t) (k l) (ih x k)) m
noncomputable def MK.put (m : MK) : Nat → List Bool → (MK → Bool) → Bool :=
  @MK.rec (fun _ => Nat → List Bool → (MK → Bool) → Bool) (fun _ _ _ => false) (fun t l r ih x v k => br (Nat.beq x t) (k (.cons t v r)) (ih x v fun r' => k (.cons t l r'))) m
noncomputable def setMk (σ : St) (t : Nat) (l : List Bool) (k : St → Bool) : Bool := @St.rec (fun _ => Bool) (fun hp nx lo mk => mk.put t l fun mk => k ⟨hp, nx, lo, mk⟩) σ
-- alive lanes with the flag, alive lanes without it (forced)
noncomputable def both (ms : List Bool) : List Bool → (List Bool → List Bool → Bool → Bool → Bool) → Bool :=
  @List.rec Bool (fun _ => List Bool → (List Bool → List Bool → Bool → Bool → Bool) → Bool) (fun _ k => k [] [] false false)
    (fun m _ ih bs k => @List.rec Bool (fun _ => Bool) false (fun b r _ => ih r fun x y p q =>
      br m (br b (k (true :: x) (false :: y) true q) (k (false :: x) (true :: y) p true)) (k (false :: x) (false :: y) p q)) bs) ms
noncomputable def splitOn (t : Nat) (bs : List Bool) (σ : St) (k : KB) : Bool :=
  σ.ms.get t fun ms => both ms bs fun x y p q => br p (br q (br (setMk σ t x (k true)) (setMk σ t y (k false)) false) (k true σ)) (br q (k false σ) true)
noncomputable def mapB (f : Int → Bool) (l : List Int) : List Bool := @List.rec Int (fun _ => List Bool) [] (fun x _ ih => f x :: ih) l
noncomputable def zipB (f : Int → Int → Bool) (l : List Int) : List Int → List Bool :=
  @List.rec Int (fun _ => List Int → List Bool) (fun _ => []) (fun x _ ih l' => @List.rec Int (fun _ => List Bool) [] (fun y r _ => f x y :: ih r) l') l
noncomputable def irelI (f : Int → Int → Bool) (x : Int) (b : AV) (σ : St) (k : KB) : Bool :=
  @AV.rec (fun _ => Bool) false false false (fun y => br (f x y) (k true σ) (k false σ)) (fun t l => splitOn t (mapB (f x) l) σ k) (fun _ => false) (fun _ => false) (fun _ => false) b
noncomputable def irelV (f : Int → Int → Bool) (t : Nat) (l : List Int) (b : AV) (σ : St) (k : KB) : Bool :=
  @AV.rec (fun _ => Bool) false false false (fun y => splitOn t (mapB (fun x => f x y) l) σ k) (fun t' l' => br (Nat.beq t t') (splitOn t (zipB f l l') σ k) false) (fun _ => false) (fun _ => false) (fun _ => false) b
noncomputable def irel (f : Int → Int → Bool) (a b : AV) (σ : St) (k : KB) : Bool :=
  @AV.rec (fun _ => Bool) false false false (fun x => irelI f x b σ k) (fun t l => irelV f t l b σ k) (fun _ => false) (fun _ => false) (fun _ => false) a
-- the value itself: a case a value of the alive lanes
noncomputable def firstOn (ms : List Bool) : List Int → (Int → Bool) → Bool → Bool :=
  @List.rec Bool (fun _ => List Int → (Int → Bool) → Bool → Bool) (fun _ _ d => d)
    (fun m _ ih l k d => @List.rec Int (fun _ => Bool) false (fun x r _ => br m (k x) (ih r k d)) l) ms
noncomputable def conN (t : Nat) (l : List Int) (n : Nat) : St → (Int → St → Bool) → Bool :=
  @Nat.rec (fun _ => St → (Int → St → Bool) → Bool) (fun _ _ => false)
    (fun _ ih σ k => σ.ms.get t fun ms => firstOn ms l (fun x => both ms (mapB (eqb x) l) fun a b _ q =>
      br q (br (setMk σ t a (k x)) (setMk σ t b fun σ => ih σ k) false) (k x σ)) true) n
noncomputable def con (v : AV) (σ : St) (k : Int → St → Bool) : Bool :=
  @AV.rec (fun _ => Bool) false false false (fun x => k x σ) (fun t l => conN t l 300 σ k) (fun _ => false) (fun _ => false) (fun _ => false) v
noncomputable def look (l : FL) : Nat → (AV → Bool) → Bool :=
  @FL.rec (fun _ => Nat → (AV → Bool) → Bool) (fun _ _ => false) (fun y v _ ih x k => @Bool.rec (fun _ => Bool) (ih x k) (k v) (Nat.beq x y)) l
noncomputable def lset (l : FL) : Nat → AV → (FL → Bool) → Bool :=
  @FL.rec (fun _ => Nat → AV → (FL → Bool) → Bool) (fun x v k => k (.cons x v .nil))
    (fun y u r ih x v k => @Bool.rec (fun _ => Bool) (ih x v fun r' => k (.cons y u r')) (k (.cons y v r)) (Nat.beq x y)) l
noncomputable def new (σ : St) (o : AO) (k : K) : Bool := @St.rec (fun _ => Bool) (fun hp nx lo mk => hp.put nx o fun hp => forceN (Nat.succ nx) fun nx' => k (.own nx) ⟨hp, nx', lo, mk⟩) σ
noncomputable def upd (σ : St) (i : Nat) (o : AO) (k : KS) : Bool := @St.rec (fun _ => Bool) (fun hp nx lo mk => hp.put i o fun hp => k ⟨hp, nx, lo, mk⟩) σ
noncomputable def setLo (σ : St) (lo : FL) (k : KS) : Bool := @St.rec (fun _ => Bool) (fun hp nx _ mk => k ⟨hp, nx, lo, mk⟩) σ
noncomputable def leq (l : List Nat) : List Nat → Bool :=
  @List.rec Nat (fun _ => List Nat → Bool) (fun l' => @List.rec Nat (fun _ => Bool) true (fun _ _ _ => false) l')
    (fun x _ ih l' => @List.rec Nat (fun _ => Bool) false (fun y r _ => br (Nat.beq x y) (ih r) false) l') l
noncomputable def nth (l : List AV) : Nat → (AV → Bool) → Bool :=
  @List.rec AV (fun _ => Nat → (AV → Bool) → Bool) (fun _ _ => false) (fun x _ ih i k => @Nat.rec (fun _ => Bool) (k x) (fun j _ => ih j k) i) l
noncomputable def setNth (l : List AV) : Nat → AV → (List AV → Bool) → Bool :=
  @List.rec AV (fun _ => Nat → AV → (List AV → Bool) → Bool) (fun _ _ _ => false) (fun x r ih i v k => @Nat.rec (fun _ => Bool) (k (v :: r)) (fun j _ => ih j v fun r' => k (x :: r')) i) l
noncomputable def app {α : Type} (l : List α) : List α → (List α → Bool) → Bool :=
  @List.rec α (fun _ => List α → (List α → Bool) → Bool) (fun b k => k b) (fun x _ ih b k => ih b fun r => k (x :: r)) l
noncomputable def len {α : Type} (l : List α) : Nat → (Nat → Bool) → Bool :=
  @List.rec α (fun _ => Nat → (Nat → Bool) → Bool) (fun n k => k n) (fun _ _ ih n k => forceN (Nat.succ n) fun n => ih n k) l
noncomputable def cap {α : Type} (l : List α) (b : Bool) : Bool := len l 0 fun n => br (Nat.ble n 10000) b false
noncomputable def takeC (l : List Nat) : Nat → (List Nat → Bool) → Bool :=
  @List.rec Nat (fun _ => Nat → (List Nat → Bool) → Bool) (fun _ k => k []) (fun x _ ih n k => @Nat.rec (fun _ => Bool) (k []) (fun m _ => ih m fun r => k (x :: r)) n) l
noncomputable def dropC (l : List Nat) : Nat → (List Nat → Bool) → Bool :=
  @List.rec Nat (fun _ => Nat → (List Nat → Bool) → Bool) (fun _ k => k []) (fun x r ih n k => @Nat.rec (fun _ => Bool) (k (x :: r)) (fun m _ => ih m k) n) l
noncomputable def rep (n : Nat) : List AV → (List AV → Bool) → Bool :=
  @Nat.rec (fun _ => List AV → (List AV → Bool) → Bool) (fun _ k => k []) (fun _ ih l k => ih l fun r => app l r k) n
noncomputable def rng (n : Nat) : Nat → (List Nat → Bool) → Bool :=
  @Nat.rec (fun _ => Nat → (List Nat → Bool) → Bool) (fun _ k => k []) (fun _ ih a k => forceN (Nat.succ a) fun a' => ih a' fun r => k (a :: r)) n
noncomputable def strz (l : List AV) : (List Nat → Bool) → Bool :=
  @List.rec AV (fun _ => (List Nat → Bool) → Bool) (fun k => k []) (fun v _ ih k => @AV.rec (fun _ => Bool) false false false (fun _ => false) (fun _ _ => false) (fun s => ih fun r => k (s :: r)) (fun _ => false) (fun _ => false) v) l
noncomputable def natOf (x : Int) (k : Nat → Bool) : Bool := @Int.rec (fun _ => Bool) (fun n => k n) (fun _ => false) x
-- the ints of a list, each below 256
noncomputable def octets (l : List AV) : St → (List Nat → St → Bool) → Bool :=
  @List.rec AV (fun _ => St → (List Nat → St → Bool) → Bool) (fun σ k => k [] σ) (fun v _ ih σ k => con v σ fun x σ => natOf x fun n => br (Nat.ble (Nat.succ n) 256) (ih σ fun r σ => k (n :: r) σ) false) l
noncomputable def dget (l : List (Int × AV)) : Int → (AV → Bool) → (Unit → Bool) → Bool :=
  @List.rec (Int × AV) (fun _ => Int → (AV → Bool) → (Unit → Bool) → Bool) (fun _ _ d => d ()) (fun p _ ih x k d => br (eqb x p.1) (k p.2) (ih x k d)) l
noncomputable def dset (l : List (Int × AV)) : Int → AV → (List (Int × AV) → Bool) → Bool :=
  @List.rec (Int × AV) (fun _ => Int → AV → (List (Int × AV) → Bool) → Bool) (fun x v k => k [(x, v)]) (fun p r ih x v k => br (eqb x p.1) (k ((p.1, v) :: r)) (ih x v fun r' => k (p :: r'))) l
noncomputable def ddel (l : List (Int × AV)) : Int → (AV → List (Int × AV) → Bool) → Bool :=
  @List.rec (Int × AV) (fun _ => Int → (AV → List (Int × AV) → Bool) → Bool) (fun _ _ => false) (fun p r ih x k => br (eqb x p.1) (k p.2 r) (ih x fun v r' => k v (p :: r'))) l
noncomputable def dtget (l : List (List Nat × AV)) : List Nat → (AV → Bool) → (Unit → Bool) → Bool :=
  @List.rec (List Nat × AV) (fun _ => List Nat → (AV → Bool) → (Unit → Bool) → Bool) (fun _ _ d => d ()) (fun p _ ih x k d => br (leq x p.1) (k p.2) (ih x k d)) l
-- an int among constants (the list's items are ints of one value each)
noncomputable def memI (l : List AV) : Int → (Bool → Bool) → Bool :=
  @List.rec AV (fun _ => Int → (Bool → Bool) → Bool) (fun _ k => k false) (fun v _ ih x k => @AV.rec (fun _ => Bool) false false false (fun y => ih x fun b => br (eqb y x) (k true) (k b)) (fun _ _ => false) (fun _ => false) (fun _ => false) (fun _ => false) v) l
noncomputable def allI (l : List AV) (b : Bool) : Bool := @List.rec AV (fun _ => Bool) b (fun v _ ih => @AV.rec (fun _ => Bool) false false false (fun _ => ih) (fun _ _ => false) (fun _ => false) (fun _ => false) (fun _ => false) v) l
noncomputable def remI (l : List AV) : Int → (List AV → Bool) → Bool :=
  @List.rec AV (fun _ => Int → (List AV → Bool) → Bool) (fun _ _ => false) (fun v r ih x k => @AV.rec (fun _ => Bool) false false false (fun y => br (eqb x y) (allI r (k r)) (ih x fun r' => k (.int y :: r'))) (fun _ _ => false) (fun _ => false) (fun _ => false) (fun _ => false) v) l
noncomputable def memS (l : List AV) : Nat → (Bool → Bool) → Bool :=
  @List.rec AV (fun _ => Nat → (Bool → Bool) → Bool) (fun _ k => k false) (fun v _ ih x k => @AV.rec (fun _ => Bool) false false false (fun _ => false) (fun _ _ => false) (fun y => ih x fun b => br (Nat.beq y x) (k true) (k b)) (fun _ => false) (fun _ => false) v) l
noncomputable def onOwn (v : AV) (f : Nat → Bool) : Bool := @AV.rec (fun _ => Bool) false false false (fun _ => false) (fun _ _ => false) (fun _ => false) (fun _ => false) f v
noncomputable def onBytes (v : AV) (f : List Nat → Bool) : Bool := @AV.rec (fun _ => Bool) false false false (fun _ => false) (fun _ _ => false) (fun _ => false) f (fun _ => false) v
noncomputable def onStr (v : AV) (f : Nat → Bool) : Bool := @AV.rec (fun _ => Bool) false false false (fun _ => false) (fun _ _ => false) f (fun _ => false) (fun _ => false) v
noncomputable def onInst (o : AO) (f : Nat → FL → Bool) : Bool := @AO.rec (fun _ => Bool) f (fun _ => false) (fun _ => false) (fun _ => false) (fun _ => false) (fun _ => false) (fun _ _ => false) (fun _ _ => false) false o
noncomputable def onList (o : AO) (f : List AV → Bool) : Bool := @AO.rec (fun _ => Bool) (fun _ _ => false) f (fun _ => false) (fun _ => false) (fun _ => false) (fun _ => false) (fun _ _ => false) (fun _ _ => false) false o
noncomputable def onTup (o : AO) (f : List AV → Bool) : Bool := @AO.rec (fun _ => Bool) (fun _ _ => false) (fun _ => false) f (fun _ => false) (fun _ => false) (fun _ => false) (fun _ _ => false) (fun _ _ => false) false o
noncomputable def onBarr (o : AO) (f : List Nat → Bool) : Bool := @AO.rec (fun _ => Bool) (fun _ _ => false) (fun _ => false) (fun _ => false) (fun _ => false) (fun _ => false) f (fun _ _ => false) (fun _ _ => false) false o
noncomputable def eqNone (b : AV) (σ : St) (k : KB) : Bool := @AV.rec (fun _ => Bool) (k true σ) (k false σ) (k false σ) (fun _ => k false σ) (fun _ _ => k false σ) (fun _ => k false σ) (fun _ => false) (fun _ => false) b
noncomputable def eqInt (x : Int) (b : AV) (σ : St) (k : KB) : Bool := @AV.rec (fun _ => Bool) (k false σ) false false (fun y => br (eqb x y) (k true σ) (k false σ)) (fun t l => splitOn t (mapB (eqb x) l) σ k) (fun _ => k false σ) (fun _ => false) (fun _ => false) b
noncomputable def eqVec (t : Nat) (l : List Int) (b : AV) (σ : St) (k : KB) : Bool := @AV.rec (fun _ => Bool) (k false σ) false false (fun y => splitOn t (mapB (fun x => eqb x y) l) σ k) (fun t' l' => br (Nat.beq t t') (splitOn t (zipB eqb l l') σ k) false) (fun _ => k false σ) (fun _ => false) (fun _ => false) b
noncomputable def eqStr (x : Nat) (b : AV) (σ : St) (k : KB) : Bool := @AV.rec (fun _ => Bool) (k false σ) false false (fun _ => k false σ) (fun _ _ => k false σ) (fun y => br (Nat.beq x y) (k true σ) (k false σ)) (fun _ => false) (fun _ => false) b
noncomputable def eqBytes (x : List Nat) (b : AV) (σ : St) (k : KB) : Bool := onBytes b fun y => br (leq x y) (k true σ) (k false σ)
-- all items alike, or fail
noncomputable def eqsBy (eq : AV → AV → St → KB → Bool) (l : List AV) : List AV → St → (St → Bool) → Bool :=
  @List.rec AV (fun _ => List AV → St → (St → Bool) → Bool) (fun l' σ k => @List.rec AV (fun _ => Bool) (k σ) (fun _ _ _ => false) l')
    (fun x _ ih l' σ k => @List.rec AV (fun _ => Bool) false (fun y r _ => eq x y σ fun b σ => br b (ih r σ k) false) l') l
noncomputable def eqLen (eq : AV → AV → St → KB → Bool) (xs ys : List AV) (σ : St) (k : KB) : Bool := len xs 0 fun m => len ys 0 fun n => br (Nat.beq m n) (eqsBy eq xs ys σ (k true)) (k false σ)
noncomputable def eqObj (eq : AV → AV → St → KB → Bool) (o p : AO) (σ : St) (k : KB) : Bool :=
  @AO.rec (fun _ => Bool) (fun _ _ => false) (fun xs => onList p fun ys => eqLen eq xs ys σ k) (fun xs => onTup p fun ys => eqsBy eq xs ys σ (k true)) (fun _ => false) (fun _ => false) (fun _ => false) (fun _ _ => false) (fun _ _ => false) false o
noncomputable def eqOwn (eq : AV → AV → St → KB → Bool) (i : Nat) (b : AV) (σ : St) (k : KB) : Bool := onOwn b fun j => σ.hp.get i fun o => σ.hp.get j fun p => eqObj eq o p σ k
noncomputable def eqN (n : Nat) : AV → AV → St → KB → Bool :=
  @Nat.rec (fun _ => AV → AV → St → KB → Bool) (fun _ _ _ _ => false)
    (fun _ ih a b σ k => @AV.rec (fun _ => Bool) (eqNone b σ k) false false (fun x => eqInt x b σ k) (fun t l => eqVec t l b σ k) (fun x => eqStr x b σ k) (fun x => eqBytes x b σ k) (fun i => eqOwn ih i b σ k) a) n
noncomputable def eqV : AV → AV → St → KB → Bool := eqN 4
noncomputable def onCons (l : List AV) (b : Bool) : Bool := @List.rec AV (fun _ => Bool) false (fun _ _ _ => b) l
noncomputable def kV (k : K) (σ : St) (v : AV) : Bool := k v σ
noncomputable def addObj (o p : AO) (σ : St) (k : K) : Bool :=
  @AO.rec (fun _ => Bool) (fun _ _ => false) (fun xs => onList p fun ys => app xs ys fun zs => cap zs (new σ (.list zs) k)) (fun xs => onTup p fun ys => onCons xs (onCons ys (app xs ys fun zs => cap zs (new σ (.tup zs) k)))) (fun _ => false) (fun _ => false) (fun _ => false) (fun _ _ => false) (fun _ _ => false) false o
noncomputable def addV (a b : AV) (σ : St) (k : K) : Bool :=
  @AV.rec (fun _ => Bool) false false false (fun x => iopI addI x b (kV k σ)) (fun t l => iopV addI t l b (kV k σ)) (fun _ => false) (fun x => onBytes b fun y => app x y fun z => cap z (k (.bytes z) σ))
    (fun i => onOwn b fun j => σ.hp.get i fun o => σ.hp.get j fun p => addObj o p σ k) a
noncomputable def subV (a b : AV) (σ : St) (k : K) : Bool := iop Int.sub a b (kV k σ)
noncomputable def smallI (x : Int) : Bool := @Int.rec (fun _ => Bool) (fun n => Nat.ble n 1000000000) (fun n => Nat.ble n 999999999) x
noncomputable def smallM (x : Int) : Bool := @Int.rec (fun _ => Bool) (fun n => Nat.ble n 2200000000) (fun n => Nat.ble n 2199999999) x
noncomputable def onSmall (b : AV) (f : Int → Bool) : Bool := @AV.rec (fun _ => Bool) false false false (fun y => br (smallI y) (f y) false) (fun _ _ => false) (fun _ => false) (fun _ => false) (fun _ => false) b
noncomputable def mulV (a b : AV) (σ : St) (k : K) : Bool :=
  @AV.rec (fun _ => Bool) false false false (fun x => br (smallM x) (iopI Int.mul x b (kV k σ)) (onSmall b fun y => iopI Int.mul x (.int y) (kV k σ))) (fun t l => onSmall b fun y => iopV Int.mul t l (.int y) (kV k σ)) (fun _ => false) (fun _ => false)
    (fun i => con b σ fun n σ => natOf n fun n => σ.hp.get i fun o => onList o fun xs => br (Nat.ble n 100) (rep n xs fun zs => cap zs (new σ (.list zs) k)) false) a
-- by a positive constant
noncomputable def posOf (b : AV) (f : Int → Bool) : Bool := @AV.rec (fun _ => Bool) false false false (fun y => @Int.rec (fun _ => Bool) (fun n => @Nat.rec (fun _ => Bool) false (fun m _ => br (Nat.ble m 1000000000) (f (.ofNat (Nat.succ m))) false) n) (fun _ => false) y) (fun _ _ => false) (fun _ => false) (fun _ => false) (fun _ => false) b
noncomputable def posM (b : AV) (f : Int → Bool) : Bool := @AV.rec (fun _ => Bool) false false false (fun y => @Int.rec (fun _ => Bool) (fun n => @Nat.rec (fun _ => Bool) false (fun m _ => f (.ofNat (Nat.succ m))) n) (fun _ => false) y) (fun _ _ => false) (fun _ => false) (fun _ => false) (fun _ => false) b
noncomputable def fdvV (a b : AV) (σ : St) (k : K) : Bool := posOf b fun y => iop Int.fdiv a (.int y) (kV k σ)
noncomputable def modV (a b : AV) (σ : St) (k : K) : Bool := posM b fun y => iop modI a (.int y) (kV k σ)
noncomputable def nop (f : Nat → Nat → Nat) (a b : AV) (σ : St) (k : K) : Bool :=
  con a σ fun x σ => natOf x fun m => con b σ fun y σ => natOf y fun n => forceN (f m n) fun z => k (.int (.ofNat z)) σ
noncomputable def powV (a b : AV) (σ : St) (k : K) : Bool :=
  con a σ fun x σ => natOf x fun m => con b σ fun y σ => natOf y fun n => br (Nat.ble m 1000000000) (br (Nat.ble n 64) (forceN (Nat.pow m n) fun z => k (.int (.ofNat z)) σ) false) false
noncomputable def cst (v : AV) : M := fun σ k => k v σ
noncomputable def loc (x : Nat) : M := fun σ k => look σ.lo x fun v => k v σ
noncomputable def bin (f : AV → AV → St → K → Bool) (a b : M) : M := fun σ k => a σ fun v σ => b σ fun w σ => f v w σ k
noncomputable def neg (a : M) : M := fun σ k => a σ fun v σ => subV (.int 0) v σ k
noncomputable def kB (k : K) (b : Bool) (σ : St) : Bool := br b (k .tt σ) (k .ff σ)
noncomputable def val (m : MB) : M := fun σ k => m σ (kB k)
noncomputable def kNot (k : KB) (b : Bool) (σ : St) : Bool := br b (k false σ) (k true σ)
noncomputable def notB (m : MB) : MB := fun σ k => m σ (kNot k)
noncomputable def kTruth (k : KB) (v : AV) (σ : St) : Bool := @AV.rec (fun _ => Bool) false (k true σ) (k false σ) (fun _ => false) (fun _ _ => false) (fun _ => false) (fun _ => false) (fun _ => false) v
noncomputable def truth (m : M) : MB := fun σ k => m σ (kTruth k)
noncomputable def kAnd (m : MB) (k : KB) (b : Bool) (σ : St) : Bool := br b (m σ k) (k false σ)
noncomputable def andB (a b : MB) : MB := fun σ k => a σ (kAnd b k)
noncomputable def kOr (m : MB) (k : KB) (b : Bool) (σ : St) : Bool := br b (k true σ) (m σ k)
noncomputable def orB (a b : MB) : MB := fun σ k => a σ (kOr b k)
noncomputable def kIfM (a b : M) (k : K) (c : Bool) (σ : St) : Bool := br c (a σ k) (b σ k)
noncomputable def ifx (t : MB) (a b : M) : M := fun σ k => t σ (kIfM a b k)
noncomputable def rel (f : AV → AV → St → KB → Bool) (a b : M) : MB := fun σ k => a σ fun v σ => b σ fun w σ => f v w σ k
noncomputable def kNone (k : KB) (v : AV) (σ : St) : Bool := @AV.rec (fun _ => Bool) (k true σ) (k false σ) (k false σ) (fun _ => k false σ) (fun _ _ => k false σ) (fun _ => k false σ) (fun _ => k false σ) (fun _ => k false σ) v
noncomputable def isNone (a : M) : MB := fun σ k => a σ (kNone k)
noncomputable def inObj (a : AV) (o : AO) (σ : St) (k : KB) : Bool :=
  @AO.rec (fun _ => Bool) (fun _ _ => false) (fun xs => con a σ fun x σ => memI xs x fun b => k b σ) (fun xs => onStr a fun s => memS xs s fun b => k b σ)
    (fun es => con a σ fun x σ => dget es x (fun _ => k true σ) fun _ => k false σ) (fun _ => false) (fun _ => false) (fun _ _ => false) (fun _ _ => false) false o
noncomputable def inV (a b : AV) (σ : St) (k : KB) : Bool := onOwn b fun i => σ.hp.get i fun o => inObj a o σ k
noncomputable def nil : ML := fun σ k => k [] σ
noncomputable def cons (e : M) (r : ML) : ML := fun σ k => e σ fun v σ => r σ fun vs σ => k (v :: vs) σ
noncomputable def mkList (es : ML) : M := fun σ k => es σ fun vs σ => cap vs (new σ (.list vs) k)
noncomputable def mkTup (es : ML) : M := fun σ k => es σ fun vs σ => cap vs (new σ (.tup vs) k)
noncomputable def dict0 : M := fun σ k => new σ (.dict []) k
noncomputable def kAttr (C a : Nat) (k : K) (v : AV) (σ : St) : Bool := onOwn v fun i => σ.hp.get i fun o => onInst o fun D fs => br (Nat.beq C D) (look fs a fun v => k v σ) false
noncomputable def attr (C : Nat) (o : M) (a : Nat) : M := fun σ k => o σ (kAttr C a k)
noncomputable def idxL (xs : List AV) (x : Int) (k : AV → Bool) : Bool := @Int.rec (fun _ => Bool) (fun n => nth xs n k) (fun _ => false) x
noncomputable def idxO (x : Int) (o : AO) (σ : St) (k : K) : Bool :=
  @AO.rec (fun _ => Bool) (fun _ _ => false) (fun xs => idxL xs x (kV k σ)) (fun xs => natOf x fun n => nth xs n (kV k σ)) (fun es => dget es x (kV k σ) fun _ => false) (fun _ => false) (fun _ => false) (fun _ _ => false) (fun _ _ => false) false o
noncomputable def idxV (v x : AV) (σ : St) (k : K) : Bool := onOwn v fun j => con x σ fun x σ => σ.hp.get j fun o => idxO x o σ k
noncomputable def loOf (a : AV) (σ : St) (k : Nat → St → Bool) : Bool := @AV.rec (fun _ => Bool) (k 0 σ) false false (fun x => natOf x fun n => k n σ) (fun t l => con (.vec t l) σ fun x σ => natOf x fun n => k n σ) (fun _ => false) (fun _ => false) (fun _ => false) a
noncomputable def hiOf (l : List Nat) (b : AV) (lo : Nat) (σ : St) (k : K) : Bool :=
  @AV.rec (fun _ => Bool) (dropC l lo fun z => k (.bytes z) σ) false false (fun x => natOf x fun m => dropC l lo fun r => takeC r (Nat.sub m lo) fun z => k (.bytes z) σ) (fun _ _ => con b σ fun x σ => natOf x fun m => dropC l lo fun r => takeC r (Nat.sub m lo) fun z => k (.bytes z) σ) (fun _ => false) (fun _ => false) (fun _ => false) b
noncomputable def sliceV (v a b : AV) (σ : St) (k : K) : Bool := onBytes v fun l => loOf a σ fun lo σ => hiOf l b lo σ k
noncomputable def slc (o lo hi : M) : M := fun σ k => o σ fun v σ => lo σ fun a σ => hi σ fun b σ => sliceV v a b σ k
noncomputable def bind (ps : List Nat) : List AV → List AV → (FL → Bool) → Bool :=
  @List.rec Nat (fun _ => List AV → List AV → (FL → Bool) → Bool) (fun as _ k => @List.rec AV (fun _ => Bool) (k .nil) (fun _ _ _ => false) as)
    (fun p _ ih as ds k => @List.rec AV (fun _ => Bool) (@List.rec AV (fun _ => Bool) false (fun d ds _ => ih [] ds fun r => k (.cons p d r)) ds) (fun a as _ => ih as ds fun r => k (.cons p a r)) as) ps
noncomputable def kBack (lo : FL) (k : K) (v : AV) (σ : St) : Bool := setLo σ lo (k v)
noncomputable def no (_ : St) : Bool := false
noncomputable def fn (ps : List Nat) (ds : List AV) (body : MX) : MF := fun as σ k => bind ps as ds fun lo' => setLo σ lo' fun σ' => body σ' (kBack σ.lo k .none) no no (kBack σ.lo k)
noncomputable def callF (f : MF) (es : ML) : M := fun σ k => es σ fun as σ => f as σ k
noncomputable def kFst (k : K) (v : AV) (u : AV) (σ : St) : Bool := @AV.rec (fun _ => Bool) (k v σ) false false (fun _ => false) (fun _ _ => false) (fun _ => false) (fun _ => false) (fun _ => false) u
noncomputable def callC (C : Nat) (f : MF) (es : ML) : M := fun σ k => es σ fun as σ => new σ (.inst C .nil) fun v σ => f (v :: as) σ (kFst k v)
noncomputable def noFld (fs : FL) (m : Nat) (b : Bool) : Bool := @FL.rec (fun _ => Bool) b (fun y _ _ ih => br (Nat.beq y m) false ih) fs
noncomputable def chkM (C m : Nat) (v : AV) (σ : St) (b : Bool) : Bool := onOwn v fun i => σ.hp.get i fun o => onInst o fun D fs => br (Nat.beq C D) (noFld fs m b) false
noncomputable def meth (C m : Nat) (f : MF) (o : M) (es : ML) : M := fun σ k => o σ fun v σ => chkM C m v σ (es σ fun as σ => f (v :: as) σ k)
noncomputable def prop (C m : Nat) (f : MF) (o : M) : M := fun σ k => o σ fun v σ => chkM C m v σ (f [v] σ k)
noncomputable def callB (f : MF) (es : ML) : M := fun σ k => es σ fun as σ => f as σ k
noncomputable def bmV (f : Nat → AO → List AV → St → K → Bool) (v : AV) (as : List AV) (σ : St) (k : K) : Bool := onOwn v fun i => σ.hp.get i fun o => f i o as σ k
-- 1: a list, 2: a dict, 3: a dict by tuples, 4: a bytearray
noncomputable def isKind (T : Nat) (o : AO) (b : Bool) : Bool :=
  @AO.rec (fun _ => Bool) (fun _ _ => false) (fun _ => br (Nat.beq T 1) b false) (fun _ => false) (fun _ => br (Nat.beq T 2) b false) (fun _ => br (Nat.beq T 3) b false) (fun _ => br (Nat.beq T 4) b false) (fun _ _ => false) (fun _ _ => false) false o
noncomputable def chkK (T : Nat) (v : AV) (σ : St) (b : Bool) : Bool := onOwn v fun i => σ.hp.get i fun o => isKind T o b
noncomputable def bmeth (T : Nat) (f : Nat → AO → List AV → St → K → Bool) (o : M) (es : ML) : M := fun σ k => o σ fun v σ => chkK T v σ (es σ fun as σ => bmV f v as σ k)
-- one, two, three arguments
noncomputable def arg1 (as : List AV) (f : AV → Bool) : Bool := @List.rec AV (fun _ => Bool) false (fun a r _ => @List.rec AV (fun _ => Bool) (f a) (fun _ _ _ => false) r) as
noncomputable def kLen (k : K) (σ : St) (n : Nat) : Bool := k (.int (.ofNat n)) σ
noncomputable def lenO (o : AO) (σ : St) (k : K) : Bool :=
  @AO.rec (fun _ => Bool) (fun _ _ => false) (fun l => len l 0 (kLen k σ)) (fun _ => false) (fun _ => false) (fun _ => false) (fun l => len l 0 (kLen k σ)) (fun _ _ => false) (fun _ _ => false) false o
noncomputable def lenV (v : AV) (σ : St) (k : K) : Bool :=
  @AV.rec (fun _ => Bool) false false false (fun _ => false) (fun _ _ => false) (fun _ => false) (fun l => len l 0 (kLen k σ)) (fun i => σ.hp.get i fun o => lenO o σ k) v
noncomputable def b_len : MF := fun as σ k => arg1 as fun v => lenV v σ k
noncomputable def kPick (a b : AV) (k : K) (c : Bool) (σ : St) : Bool := br c (k b σ) (k a σ)
noncomputable def minV (a b : AV) (σ : St) (k : K) : Bool := irel ltb b a σ (kPick a b k)
noncomputable def maxV (a b : AV) (σ : St) (k : K) : Bool := irel gtb b a σ (kPick a b k)
noncomputable def args (as : List AV) (f1 : AV → Bool) (f2 : AV → AV → Bool) (f3 : AV → AV → AV → Bool) : Bool :=
  @List.rec AV (fun _ => Bool) false (fun a r _ => @List.rec AV (fun _ => Bool) (f1 a) (fun b r _ => @List.rec AV (fun _ => Bool) (f2 a b) (fun c r _ => @List.rec AV (fun _ => Bool) (f3 a b c) (fun _ _ _ => false) r) r) r) as
noncomputable def b_min : MF := fun as σ k => args as (fun _ => false) (fun a b => minV a b σ k) (fun a b c => minV a b σ fun d σ => minV d c σ k)
noncomputable def b_max : MF := fun as σ k => args as (fun _ => false) (fun a b => maxV a b σ k) (fun _ _ _ => false)
noncomputable def intV (v : AV) (σ : St) (k : K) : Bool := @AV.rec (fun _ => Bool) false (k (.int 1) σ) (k (.int 0) σ) (fun _ => false) (fun _ _ => false) (fun _ => false) (fun _ => false) (fun _ => false) v
noncomputable def b_int : MF := fun as σ k => arg1 as fun v => intV v σ k
noncomputable def kBytes (k : K) (l : List Nat) (σ : St) : Bool := k (.bytes l) σ
noncomputable def bytesO (o : AO) (σ : St) (k : K) : Bool :=
  @AO.rec (fun _ => Bool) (fun _ _ => false) (fun l => octets l σ (kBytes k)) (fun _ => false) (fun _ => false) (fun _ => false) (fun _ => false)
    (fun a b => natOf a fun a => natOf b fun b => br (Nat.ble a 256) (br (Nat.ble b 256) (rng (Nat.sub b a) a fun l => k (.bytes l) σ) false) false) (fun _ _ => false) false o
noncomputable def bytesV (v : AV) (σ : St) (k : K) : Bool :=
  @AV.rec (fun _ => Bool) false false false (fun _ => false) (fun _ _ => false) (fun _ => false) (fun l => k (.bytes l) σ) (fun i => σ.hp.get i fun o => bytesO o σ k) v
noncomputable def b_bytes : MF := fun as σ k => arg1 as fun v => bytesV v σ k
noncomputable def b_range : MF := fun as σ k => args as (fun a => con a σ fun x σ => new σ (.range 0 x) k) (fun a b => con a σ fun x σ => con b σ fun y σ => new σ (.range x y) k) (fun _ _ _ => false)
noncomputable def keysOf (l : List (Int × AV)) (k : List AV → Bool) : Bool := @List.rec (Int × AV) (fun _ => (List AV → Bool) → Bool) (fun k => k []) (fun p _ ih k => ih fun r => k (.int p.1 :: r)) l k
noncomputable def listO (o : AO) (σ : St) (k : K) : Bool :=
  @AO.rec (fun _ => Bool) (fun _ _ => false) (fun l => new σ (.list l) k) (fun _ => false) (fun es => keysOf es fun l => new σ (.list l) k) (fun _ => false) (fun _ => false) (fun _ _ => false) (fun _ _ => false) false o
noncomputable def b_list : MF := fun as σ k => arg1 as fun v => onOwn v fun i => σ.hp.get i fun o => listO o σ k
-- sorted: no item, or one
noncomputable def sortedO (o : AO) (σ : St) (k : K) : Bool := onList o fun l => @List.rec AV (fun _ => Bool) (new σ (.list []) k) (fun x r _ => @List.rec AV (fun _ => Bool) (new σ (.list [x]) k) (fun _ _ _ => false) r) l
noncomputable def b_sorted : MF := fun as σ k => arg1 as fun v => onOwn v fun i => σ.hp.get i fun o => sortedO o σ k
noncomputable def b_bytearray : MF := fun as σ k => @List.rec AV (fun _ => Bool) (new σ (.barr []) k) (fun _ _ _ => false) as
noncomputable def m_append (i : Nat) (o : AO) (as : List AV) (σ : St) (k : K) : Bool := onList o fun xs => arg1 as fun v => app xs [v] fun zs => cap zs (upd σ i (.list zs) (k .none))
noncomputable def m_extend (i : Nat) (o : AO) (as : List AV) (σ : St) (k : K) : Bool := onList o fun xs => arg1 as fun v => onOwn v fun j => σ.hp.get j fun p => onList p fun ys => app xs ys fun zs => cap zs (upd σ i (.list zs) (k .none))
noncomputable def m_extendB (i : Nat) (o : AO) (as : List AV) (σ : St) (k : K) : Bool := onBarr o fun l => arg1 as fun v => onBytes v fun b => app l b fun z => cap z (upd σ i (.barr z) (k .none))
noncomputable def popL (xs : List AV) (x : Int) (i : Nat) (σ : St) (k : K) : Bool := @List.rec AV (fun _ => Bool) false (fun v r _ => br (eqb x 0) (upd σ i (.list r) (k v)) false) xs
noncomputable def onDict (o : AO) (f : List (Int × AV) → Bool) : Bool := @AO.rec (fun _ => Bool) (fun _ _ => false) (fun _ => false) (fun _ => false) f (fun _ => false) (fun _ => false) (fun _ _ => false) (fun _ _ => false) false o
noncomputable def m_pop (i : Nat) (o : AO) (as : List AV) (σ : St) (k : K) : Bool := arg1 as fun a => con a σ fun x σ => onList o fun xs => popL xs x i σ k
noncomputable def m_popD (i : Nat) (o : AO) (as : List AV) (σ : St) (k : K) : Bool := arg1 as fun a => con a σ fun x σ => onDict o fun es => ddel es x fun v es' => upd σ i (.dict es') (k v)
noncomputable def m_remove (i : Nat) (o : AO) (as : List AV) (σ : St) (k : K) : Bool := onList o fun xs => arg1 as fun a => con a σ fun x σ => remI xs x fun r => upd σ i (.list r) (k .none)
noncomputable def tname (x : Nat) : MT := fun v σ k => lset σ.lo x v fun lo => setLo σ lo k
-- at most n fields
noncomputable def fcap (fs : FL) : Nat → Bool → Bool := @FL.rec (fun _ => Nat → Bool → Bool) (fun _ b => b) (fun _ _ _ ih n b => @Nat.rec (fun _ => Bool) false (fun m _ => ih m b) n) fs
noncomputable def kSet (C a : Nat) (v : AV) (k : KS) (ov : AV) (σ : St) : Bool := onOwn ov fun i => σ.hp.get i fun o => onInst o fun D fs => br (Nat.beq C D) (lset fs a v fun fs => fcap fs 100 (upd σ i (.inst C fs) k)) false
noncomputable def tattr (C : Nat) (o : M) (a : Nat) : MT := fun v σ k => o σ (kSet C a v k)
noncomputable def setO (x : Int) (v : AV) (j : Nat) (o : AO) (σ : St) (k : KS) : Bool :=
  @AO.rec (fun _ => Bool) (fun _ _ => false) (fun xs => natOf x fun n => setNth xs n v fun zs => upd σ j (.list zs) k) (fun _ => false) (fun es => dset es x v fun es => cap es (upd σ j (.dict es) k)) (fun _ => false) (fun _ => false) (fun _ _ => false) (fun _ _ => false) false o
noncomputable def tsub (o i : M) : MT := fun v σ k => o σ fun ov σ => i σ fun x σ => onOwn ov fun j => con x σ fun x σ => σ.hp.get j fun o => setO x v j o σ k
noncomputable def asgs (ts : List MT) : List AV → St → KS → Bool :=
  @List.rec MT (fun _ => List AV → St → KS → Bool) (fun vs σ k => @List.rec AV (fun _ => Bool) (k σ) (fun _ _ _ => false) vs)
    (fun t _ ih vs σ k => @List.rec AV (fun _ => Bool) false (fun v r _ => t v σ fun σ => ih r σ k) vs) ts
noncomputable def sameLen (ts : List MT) : List AV → Bool → Bool :=
  @List.rec MT (fun _ => List AV → Bool → Bool) (fun vs b => @List.rec AV (fun _ => Bool) b (fun _ _ _ => false) vs)
    (fun _ _ ih vs b => @List.rec AV (fun _ => Bool) false (fun _ r _ => ih r b) vs) ts
noncomputable def ttup (ts : List MT) : MT := fun v σ k => onOwn v fun i => σ.hp.get i fun o => onTup o fun xs => sameLen ts xs (asgs ts xs σ k)
-- the last target first
noncomputable def revA (l : List AV) : List AV → List AV := @List.rec AV (fun _ => List AV → List AV) (fun acc => acc) (fun x _ ih acc => ih (x :: acc)) l
noncomputable def ttupR (ts : List MT) : MT := fun v σ k => onOwn v fun i => σ.hp.get i fun o => onTup o fun xs => sameLen ts xs (asgs ts (revA xs []) σ k)
noncomputable def done : MX := fun σ n _ _ _ => n σ
noncomputable def sq (a b : MX) : MX := fun σ n br co re => a σ (fun σ => b σ n br co re) br co re
noncomputable def kDrop (n : KS) (_ : AV) (σ : St) : Bool := n σ
noncomputable def expr (e : M) : MX := fun σ n _ _ _ => e σ (kDrop n)
noncomputable def brk : MX := fun σ _ br _ _ => br σ
noncomputable def cont : MX := fun σ _ _ co _ => co σ
noncomputable def ret (e : M) : MX := fun σ _ _ _ re => e σ re
noncomputable def asg (t : MT) (e : M) : MX := fun σ n _ _ _ => e σ fun v σ => t v σ n
noncomputable def kIte (a b : MX) (n b' co : KS) (re : K) (c : Bool) (σ : St) : Bool := br c (a σ n b' co re) (b σ n b' co re)
noncomputable def ite (t : MB) (a b : MX) : MX := fun σ n b' co re => t σ (kIte a b n b' co re)
noncomputable def bad : MX := fun _ _ _ _ _ => false
noncomputable def whlN (t : MB) (b : MX) (m : Nat) : St → KS → K → Bool :=
  @Nat.rec (fun _ => St → KS → K → Bool) (fun _ _ _ => false) (fun _ ih σ n re => t σ fun c σ => br c (b σ (fun σ => ih σ n re) n (fun σ => ih σ n re) re) (n σ)) m
noncomputable def whl (t : MB) (b : MX) : MX := fun σ n _ _ re => whlN t b 100 σ n re
-- the j-th item of a loop's source, or its end
noncomputable def itemL (xs : List AV) (j : Nat) (e : Unit → Bool) (k : AV → Bool) : Bool := len xs 0 fun m => br (Nat.ble m j) (e ()) (nth xs j k)
noncomputable abbrev SEL := Nat → AO → (Unit → Bool) → (AV → Bool) → Bool
noncomputable def selL : SEL := fun j o e k => onList o fun xs => itemL xs j e k
noncomputable def selT : SEL := fun j o e k => onTup o fun xs => itemL xs j e k
noncomputable def selR (a b : Int) : SEL := fun j _ e k => forceI (addI a (.ofNat j)) fun z => br (leb b z) (e ()) (k (.int z))
noncomputable def forN (sel : SEL) (t : MT) (b : MX) (i : Nat) (m : Nat) : Nat → St → KS → K → Bool :=
  @Nat.rec (fun _ => Nat → St → KS → K → Bool) (fun _ _ _ _ => false) (fun _ ih j σ n re => σ.hp.get i fun o => sel j o (fun _ => n σ) fun x => t x σ fun σ =>
      b σ (fun σ => forceN (Nat.succ j) fun j => ih j σ n re) n (fun σ => forceN (Nat.succ j) fun j => ih j σ n re) re) m
-- which way an object is walked: what is done for a list, a tuple, a range
noncomputable def onIter (o : AO) (f : SEL → Bool) : Bool := @AO.rec (fun _ => Bool) (fun _ _ => false) (fun _ => f selL) (fun _ => f selT) (fun _ => false) (fun _ => false) (fun _ => false) (fun a b => br (smallI a) (br (smallI b) (f (selR a b)) false) false) (fun _ _ => false) false o
noncomputable def for_ (t : MT) (it : M) (b : MX) : MX := fun σ n _ _ re => it σ fun v σ => onOwn v fun i => σ.hp.get i fun o => onIter o fun sel => forN sel t b i 100 0 σ n re
noncomputable def forL (t : MT) (it : M) (b : MX) : MX := fun σ n _ _ re => it σ fun v σ => onOwn v fun i => forN selL t b i 100 0 σ n re
noncomputable def compN (sel : SEL) (elt : M) (t : MT) (i : Nat) (m : Nat) : Nat → List AV → St → KL → Bool :=
  @Nat.rec (fun _ => Nat → List AV → St → KL → Bool) (fun _ _ _ _ => false) (fun _ ih j acc σ k => σ.hp.get i fun o => sel j o (fun _ => k (revA acc []) σ) fun x => t x σ fun σ => elt σ fun v σ => forceN (Nat.succ j) fun j => ih j (v :: acc) σ k) m
noncomputable def comp (lo0 : FL → FL) (elt : M) (t : MT) (it : M) : M := fun σ k => it σ fun v σ => onOwn v fun i => σ.hp.get i fun o => onIter o fun sel => setLo σ (lo0 σ.lo) fun σ' => compN sel elt t i 100 0 [] σ' fun vs σ' => setLo σ' σ.lo fun σ' => cap vs (new σ' (.list vs) k)
noncomputable def noLo (_ : FL) : FL := .nil
noncomputable def compL (elt : M) (t : MT) (it : M) : M := fun σ k => it σ fun v σ => onOwn v fun i => setLo σ .nil fun σ' => compN selL elt t i 100 0 [] σ' fun vs σ' => setLo σ' σ.lo fun σ' => cap vs (new σ' (.list vs) k)
-- a dict by tuples of texts, made and asked once: `f().get((x, y))`
noncomputable def tget (es : List (List Nat × AV)) (ms : ML) : M := fun σ k => ms σ fun ws σ => strz ws fun ss => dtget es ss (fun v => k v σ) fun _ => k .none σ
noncomputable def isT (v : AV) (_ : St) : Bool := @AV.rec (fun _ => Bool) false true false (fun _ => false) (fun _ _ => false) (fun _ => false) (fun _ => false) (fun _ => false) v
theorem br_t (x y : Bool) : br true x y = x := rfl
theorem br_f (x y : Bool) : br false x y = y := rfl
theorem br_iff {b x y : Bool} : br b x y = true ↔ (b = true ∧ x = true) ∨ (b = false ∧ y = true) := by cases b <;> simp [br]
theorem br_false {b x : Bool} (h : br b x false = true) : b = true ∧ x = true := by cases b <;> simp_all [br]
noncomputable def T.at : T → Nat → Option AO
  | .nil, _ => none
  | .node v l r, i => if i = 0 then some v else if i % 2 = 1 then l.at (i / 2) else r.at (i / 2 - 1)
theorem T.get_nil (i : Nat) (k : AO → Bool) : T.get .nil i k = false := rfl
theorem T.get_node (v : AO) (l r : T) (i : Nat) (k : AO → Bool) :
    T.get (.node v l r) i k = br (Nat.beq i 0) (k v) (br (Nat.beq (i % 2) 1) (l.get (i / 2) k) (r.get (i / 2 - 1) k)) := rfl
theorem T.get_ok : ∀ {t : T} {i : Nat} {k : AO → Bool}, t.get i k = true → ∃ o, t.at i = some o ∧ k o = true
  | .nil, _, _, h => by rw [T.get_nil] at h; cases h
  | .node v l r, i, k, h => by
    rw [T.get_node, br_iff] at h
    unfold T.at
    rcases h with ⟨h0, h⟩ | ⟨h0, h⟩
    · rw [if_pos (Nat.eq_of_beq_eq_true h0)]; exact ⟨v, rfl, h⟩
    · rw [if_neg (Nat.ne_of_beq_eq_false h0)]
      rw [br_iff] at h
      rcases h with ⟨h1, h⟩ | ⟨h1, h⟩
      · rw [if_pos (Nat.eq_of_beq_eq_true h1)]; exact T.get_ok h
      · rw [if_neg (Nat.ne_of_beq_eq_false h1)]; exact T.get_ok h
theorem T.put_nil (i : Nat) (o : AO) (k : T → Bool) : T.put .nil i o k = br (Nat.beq i 0) (k (.node o .nil .nil)) false := rfl
theorem T.put_node (v : AO) (l r : T) (i : Nat) (o : AO) (k : T → Bool) :
    T.put (.node v l r) i o k = br (Nat.beq i 0) (k (.node o l r)) (br (Nat.beq (i % 2) 1) (l.put (i / 2) o fun l' => k (.node v l' r)) (r.put (i / 2 - 1) o fun r' => k (.node v l r'))) := rfl
theorem T.put_ok : ∀ {t : T} {i : Nat} {o : AO} {k : T → Bool}, t.put i o k = true → ∃ t', k t' = true ∧ ∀ m, t'.at m = if m = i then some o else t.at m
  | .nil, i, o, k, h => by
    rw [T.put_nil] at h
    obtain ⟨h0, h⟩ := br_false h
    have := Nat.eq_of_beq_eq_true h0
    subst this
    refine ⟨_, h, fun m => ?_⟩
    unfold T.at
    by_cases e : m = 0
    · simp [e]
    · simp [e, T.at]
  | .node v l r, i, o, k, h => by
    rw [T.put_node, br_iff] at h
    rcases h with ⟨h0, h⟩ | ⟨h0, h⟩
    · have := Nat.eq_of_beq_eq_true h0
      subst this
      refine ⟨_, h, fun m => ?_⟩
      conv => lhs; unfold T.at
      conv => rhs; rw [T.at]
      by_cases e : m = 0 <;> simp [e]
    · have i0 := Nat.ne_of_beq_eq_false h0
      rw [br_iff] at h
      rcases h with ⟨h1, h⟩ | ⟨h1, h⟩
      · have i1 := Nat.eq_of_beq_eq_true h1
        obtain ⟨t', h, e⟩ := T.put_ok h
        refine ⟨_, h, fun m => ?_⟩
        conv => lhs; unfold T.at
        conv => rhs; rw [T.at]
        by_cases m0 : m = 0
        · have : m ≠ i := by omega
          simp [m0, Ne.symm i0]
        · by_cases m1 : m % 2 = 1
          · simp only [m0, m1, if_true, if_false, e]
            by_cases q : m = i
            · simp [q]
            · have : m / 2 ≠ i / 2 := by omega
              simp [q, this]
          · have : m ≠ i := by rintro rfl; exact m1 i1
            simp [m0, m1, this]
      · have i1 := Nat.ne_of_beq_eq_false h1
        obtain ⟨t', h, e⟩ := T.put_ok h
        refine ⟨_, h, fun m => ?_⟩
        conv => lhs; unfold T.at
        conv => rhs; rw [T.at]
        by_cases m0 : m = 0
        · simp [m0, Ne.symm i0]
        · by_cases m1 : m % 2 = 1
          · have : m ≠ i := by rintro rfl; exact i1 m1
            simp [m0, m1, this]
          · simp only [m0, m1, if_false, e]
            by_cases q : m = i
            · simp [q]
            · have : m / 2 - 1 ≠ i / 2 - 1 := by omega
              simp [q, this]
theorem forceN_ok {n : Nat} {k : Nat → Bool} (h : forceN n k = true) : k n = true := by cases n <;> exact h
theorem forceI_ok {i : Int} {k : Int → Bool} (h : forceI i k = true) : k i = true := by
  cases i with
  | ofNat n => exact forceN_ok (n := n) (k := fun n => k (.ofNat n)) h
  | negSucc n => exact forceN_ok (n := n) (k := fun n => k (.negSucc n)) h
theorem forceIs_ok : ∀ {l : List Int} {k : List Int → Bool}, forceIs l k = true → k l = true
  | [], _, h => h
  | x :: r, k, h => by
    have h' : forceI x (fun x => forceIs r fun r => k (x :: r)) = true := h
    exact forceIs_ok (l := r) (k := fun r => k (x :: r)) (forceI_ok (k := fun x => forceIs r fun r => k (x :: r)) h')
theorem nbeq_iff {m n : Nat} : Nat.beq m n = true ↔ m = n := ⟨Nat.eq_of_beq_eq_true, fun h => h ▸ Nat.beq_refl m⟩
theorem eqb_iff {a b : Int} : eqb a b = true ↔ a = b := by
  cases a with
  | ofNat m => cases b with
    | ofNat n => show Nat.beq m n = true ↔ _; rw [nbeq_iff]; exact ⟨fun h => by rw [h], fun h => by injection h⟩
    | negSucc n => show false = true ↔ _; constructor <;> intro h <;> cases h
  | negSucc m => cases b with
    | ofNat n => show false = true ↔ _; constructor <;> intro h <;> cases h
    | negSucc n => show Nat.beq m n = true ↔ _; rw [nbeq_iff]; exact ⟨fun h => by rw [h], fun h => by injection h⟩
theorem ltb_iff {a b : Int} : ltb a b = true ↔ a < b := by
  cases a with
  | ofNat m => cases b with
    | ofNat n => show Nat.ble (m + 1) n = true ↔ _; rw [Nat.ble_eq]; show _ ↔ (m : Int) < (n : Int); omega
    | negSucc n => show false = true ↔ _; constructor <;> intro h <;> first | cases h | (exfalso; have : (m : Int) < Int.negSucc n := h; omega)
  | negSucc m => cases b with
    | ofNat n => show true = true ↔ _; constructor <;> intro _ <;> first | rfl | (show Int.negSucc m < (n : Int); omega)
    | negSucc n => show Nat.ble (n + 1) m = true ↔ _; rw [Nat.ble_eq]; omega
theorem leb_iff {a b : Int} : leb a b = true ↔ a ≤ b := by
  cases a with
  | ofNat m => cases b with
    | ofNat n => show Nat.ble m n = true ↔ _; rw [Nat.ble_eq]; show _ ↔ (m : Int) ≤ (n : Int); omega
    | negSucc n => show false = true ↔ _; constructor <;> intro h <;> first | cases h | (exfalso; have : (m : Int) ≤ Int.negSucc n := h; omega)
  | negSucc m => cases b with
    | ofNat n => show true = true ↔ _; constructor <;> intro _ <;> first | rfl | (show Int.negSucc m ≤ (n : Int); omega)
    | negSucc n => show Nat.ble n m = true ↔ _; rw [Nat.ble_eq]; omega
theorem dec_of_iff {b : Bool} {p : Prop} [Decidable p] (h : b = true ↔ p) : b = decide p := by
  cases q : b with
  | true => exact (decide_eq_true (h.mp q)).symm
  | false => exact (decide_eq_false fun e => by rw [h.mpr e] at q; cases q).symm
theorem ltb_eq (a b : Int) : ltb a b = decide (a < b) := dec_of_iff ltb_iff
theorem leb_eq (a b : Int) : leb a b = decide (a ≤ b) := dec_of_iff leb_iff
theorem gtb_eq (a b : Int) : gtb a b = decide (b < a) := dec_of_iff ltb_iff
theorem geb_eq (a b : Int) : geb a b = decide (b ≤ a) := dec_of_iff leb_iff
theorem addI_eq (a b : Int) : addI a b = a + b := by cases a <;> cases b <;> rfl
theorem modI_eq (a b : Int) : modI a b = Int.fmod a b := by
  cases a <;> cases b <;> first | rfl | skip
  rename_i m n
  show Int.ofNat (m % n) = Int.fmod (.ofNat m) (.ofNat n)
  cases m with
  | zero => rw [Nat.zero_mod]; rfl
  | succ m => rfl
theorem mapI_eq (f : Int → Int) : ∀ l, mapI f l = l.map f
  | [] => rfl
  | x :: r => congrArg (f x :: ·) (mapI_eq f r)
theorem zipI_eq (f : Int → Int → Int) : ∀ l l', zipI f l l' = List.zipWith f l l'
  | [], _ => by simp [zipI]
  | _ :: _, [] => rfl
  | x :: r, y :: r' => congrArg (f x y :: ·) (zipI_eq f r r')
theorem mapB_eq (f : Int → Bool) : ∀ l, mapB f l = l.map f
  | [] => rfl
  | x :: r => congrArg (f x :: ·) (mapB_eq f r)
theorem zipB_eq (f : Int → Int → Bool) : ∀ l l', zipB f l l' = List.zipWith f l l'
  | [], _ => by simp [zipB]
  | _ :: _, [] => rfl
  | x :: r, y :: r' => congrArg (f x y :: ·) (zipB_eq f r r')
theorem allSame_ok {x : Int} : ∀ {l : List Int}, allSame x l = true → ∀ y ∈ l, y = x
  | [], _, y, h => (nomatch h)
  | z :: r, h, y, m => by
    obtain ⟨h1, h2⟩ := br_false (b := eqb x z) (x := allSame x r) h
    cases m with
    | head => exact (eqb_iff.mp h1).symm
    | tail _ m => exact allSame_ok h2 y m
theorem mkVec_ok {t : Nat} {l : List Int} {k : AV → Bool} (h : mkVec t l k = true) : (k (.vec t l) = true) ∨ ∃ x, k (.int x) = true ∧ ∀ y ∈ l, y = x := by
  unfold mkVec at h
  have h := forceIs_ok h
  cases l with
  | nil => cases h
  | cons x r =>
    have h : br (allSame x r) (k (.int x)) (k (.vec t (x :: r))) = true := h
    rw [br_iff] at h
    rcases h with ⟨h1, h⟩ | ⟨_, h⟩
    · exact .inr ⟨x, h, fun y m => by cases m with
        | head => rfl
        | tail _ m => exact allSame_ok h1 y m⟩
    · exact .inl h
noncomputable def FL.at : FL → Nat → Option AV
  | .nil, _ => none
  | .cons y v r, x => if x = y then some v else r.at x
noncomputable def FL.count : FL → Nat
  | .nil => 0
  | .cons _ _ r => r.count + 1
theorem look_cons (y : Nat) (v : AV) (r : FL) (x : Nat) (k : AV → Bool) : look (.cons y v r) x k = br (Nat.beq x y) (k v) (look r x k) := rfl
theorem look_ok : ∀ {l : FL} {x : Nat} {k : AV → Bool}, look l x k = true → ∃ v, l.at x = some v ∧ k v = true
  | .nil, _, _, h => (nomatch (show false = true from h))
  | .cons y v r, x, k, h => by
    rw [look_cons, br_iff] at h
    unfold FL.at
    rcases h with ⟨h0, h⟩ | ⟨h0, h⟩
    · rw [if_pos (Nat.eq_of_beq_eq_true h0)]; exact ⟨v, rfl, h⟩
    · rw [if_neg (Nat.ne_of_beq_eq_false h0)]; exact look_ok h
theorem lset_cons (y : Nat) (u : AV) (r : FL) (x : Nat) (v : AV) (k : FL → Bool) : lset (.cons y u r) x v k = br (Nat.beq x y) (k (.cons y v r)) (lset r x v fun r' => k (.cons y u r')) := rfl
theorem lset_ok : ∀ {l : FL} {x : Nat} {v : AV} {k : FL → Bool}, lset l x v k = true → ∃ l', k l' = true ∧ ∀ m, l'.at m = if m = x then some v else l.at m
  | .nil, x, v, k, h => ⟨_, h, fun m => by unfold FL.at; split <;> simp_all [FL.at]⟩
  | .cons y u r, x, v, k, h => by
    rw [lset_cons, br_iff] at h
    rcases h with ⟨h0, h⟩ | ⟨h0, h⟩
    · have := Nat.eq_of_beq_eq_true h0
      subst this
      refine ⟨_, h, fun m => ?_⟩
      conv => lhs; unfold FL.at
      conv => rhs; rw [FL.at]
      by_cases e : m = x <;> simp [e]
    · have := Nat.ne_of_beq_eq_false h0
      obtain ⟨r', h, e⟩ := lset_ok h
      refine ⟨_, h, fun m => ?_⟩
      conv => lhs; unfold FL.at
      conv => rhs; rw [FL.at]
      by_cases q : m = y
      · have : m ≠ x := by omega
        simp [q]
        intro h; omega
      · simp [q, e]
theorem lset_count : ∀ {l : FL} {x : Nat} {v : AV} {k : FL → Bool}, lset l x v k = true → ∃ l', k l' = true ∧ (∀ m, l'.at m = if m = x then some v else l.at m) ∧ l'.count = l.count + (if (l.at x).isSome = true then 0 else 1)
  | .nil, x, v, k, h => ⟨_, h, fun m => by unfold FL.at; split <;> simp_all [FL.at], rfl⟩
  | .cons y u r, x, v, k, h => by
    rw [lset_cons, br_iff] at h
    rcases h with ⟨h0, h⟩ | ⟨h0, h⟩
    · have := Nat.eq_of_beq_eq_true h0
      subst this
      refine ⟨_, h, fun m => ?_, ?_⟩
      · conv => lhs; unfold FL.at
        conv => rhs; rw [FL.at]
        by_cases e : m = x <;> simp [e]
      · rw [FL.at, if_pos rfl]; rfl
    · have ne := Nat.ne_of_beq_eq_false h0
      obtain ⟨r', h, e, c⟩ := lset_count h
      refine ⟨_, h, fun m => ?_, ?_⟩
      · conv => lhs; unfold FL.at
        conv => rhs; rw [FL.at]
        by_cases q : m = y
        · have : m ≠ x := by omega
          simp [q]
          intro h; omega
        · simp [q, e]
      · rw [FL.at, if_neg ne, FL.count, FL.count, c]; omega
noncomputable def MK.at : MK → Nat → Option (List Bool)
  | .nil, _ => none
  | .cons t l r, x => if x = t then some l else r.at x
theorem MK.get_ok : ∀ {m : MK} {x : Nat} {k : List Bool → Bool}, m.get x k = true → ∃ l, m.at x = some l ∧ k l = true
  | .nil, _, _, h => (nomatch (show false = true from h))
  | .cons t l r, x, k, h => by
    have h : br (Nat.beq x t) (k l) (r.get x k) = true := h
    rw [br_iff] at h
    unfold MK.at
    rcases h with ⟨h0, h⟩ | ⟨h0, h⟩
    · rw [if_pos (Nat.eq_of_beq_eq_true h0)]; exact ⟨l, rfl, h⟩
    · rw [if_neg (Nat.ne_of_beq_eq_false h0)]; exact MK.get_ok h
theorem MK.put_ok : ∀ {m : MK} {x : Nat} {v : List Bool} {k : MK → Bool}, m.put x v k = true → ∃ m', k m' = true ∧ ∀ y, m'.at y = if y = x then some v else m.at y
  | .nil, _, _, _, h => (nomatch (show false = true from h))
  | .cons t l r, x, v, k, h => by
    have h : br (Nat.beq x t) (k (.cons t v r)) (r.put x v fun r' => k (.cons t l r')) = true := h
    rw [br_iff] at h
    rcases h with ⟨h0, h⟩ | ⟨h0, h⟩
    · have := Nat.eq_of_beq_eq_true h0
      subst this
      refine ⟨_, h, fun y => ?_⟩
      conv => lhs; unfold MK.at
      conv => rhs; rw [MK.at]
      by_cases e : y = x <;> simp [e]
    · have := Nat.ne_of_beq_eq_false h0
      obtain ⟨r', h, e⟩ := MK.put_ok h
      refine ⟨_, h, fun y => ?_⟩
      conv => lhs; unfold MK.at
      conv => rhs; rw [MK.at]
      by_cases q : y = t
      · have : y ≠ x := by omega
        simp [q]
        intro h; omega
      · simp [q, e]
theorem leq_iff : ∀ {x y : List Nat}, leq x y = true ↔ x = y
  | [], [] => ⟨fun _ => rfl, fun _ => rfl⟩
  | [], _ :: _ => ⟨fun h => (nomatch (show false = true from h)), fun h => (nomatch h)⟩
  | _ :: _, [] => ⟨fun h => (nomatch (show false = true from h)), fun h => (nomatch h)⟩
  | a :: x, b :: y => by
    show br (Nat.beq a b) (leq x y) false = true ↔ _
    rw [List.cons.injEq]
    constructor
    · intro h; obtain ⟨h1, h2⟩ := br_false h; exact ⟨Nat.eq_of_beq_eq_true h1, leq_iff.mp h2⟩
    · rintro ⟨rfl, h⟩; rw [Nat.beq_refl, br_t]; exact leq_iff.mpr h
theorem nth_ok : ∀ {l : List AV} {i : Nat} {k : AV → Bool}, nth l i k = true → ∃ v, l[i]? = some v ∧ k v = true
  | [], _, _, h => (nomatch (show false = true from h))
  | x :: r, 0, k, h => ⟨x, rfl, h⟩
  | x :: r, i + 1, k, h => by
    obtain ⟨v, e, h⟩ := nth_ok (l := r) (i := i) h
    exact ⟨v, by simpa using e, h⟩
theorem setNth_ok : ∀ {l : List AV} {i : Nat} {v : AV} {k : List AV → Bool}, setNth l i v k = true → i < l.length ∧ k (l.set i v) = true
  | [], _, _, _, h => (nomatch (show false = true from h))
  | x :: r, 0, v, k, h => ⟨Nat.succ_pos _, h⟩
  | x :: r, i + 1, v, k, h => by
    obtain ⟨a, b⟩ := setNth_ok (l := r) (i := i) (k := fun r' => k (x :: r')) h
    exact ⟨Nat.succ_lt_succ a, b⟩
theorem app_ok {α : Type} : ∀ {l l' : List α} {k : List α → Bool}, app l l' k = true → k (l ++ l') = true
  | [], _, _, h => h
  | x :: r, l', k, h => app_ok (l := r) (k := fun r => k (x :: r)) h
theorem len_ok {α : Type} : ∀ {l : List α} {n : Nat} {k : Nat → Bool}, len l n k = true → k (n + l.length) = true
  | [], _, _, h => h
  | x :: r, n, k, h => by
    have h : forceN (n + 1) (fun n => len r n k) = true := h
    have := len_ok (forceN_ok h)
    rwa [List.length_cons, show n + (r.length + 1) = n + 1 + r.length by omega]
theorem takeC_ok : ∀ {l : List Nat} {n : Nat} {k : List Nat → Bool}, takeC l n k = true → k (l.take n) = true
  | [], n, _, h => by rw [List.take_nil]; exact h
  | x :: r, 0, k, h => h
  | x :: r, n + 1, k, h => takeC_ok (l := r) (n := n) (k := fun r => k (x :: r)) h
theorem dropC_ok : ∀ {l : List Nat} {n : Nat} {k : List Nat → Bool}, dropC l n k = true → k (l.drop n) = true
  | [], n, _, h => by rw [List.drop_nil]; exact h
  | x :: r, 0, k, h => h
  | x :: r, n + 1, k, h => dropC_ok (l := r) (n := n) h
theorem rep_ok : ∀ {n : Nat} {l : List AV} {k : List AV → Bool}, rep n l k = true → k ((List.replicate n l).flatten) = true
  | 0, _, _, h => h
  | n + 1, l, k, h => by
    have := app_ok (rep_ok (n := n) (k := fun r => app l r k) h)
    rwa [List.replicate_succ, List.flatten_cons]
theorem rng_ok : ∀ {n a : Nat} {k : List Nat → Bool}, rng n a k = true → k (List.range' a n) = true
  | 0, _, _, h => h
  | n + 1, a, k, h => by
    have h : forceN (a + 1) (fun a' => rng n a' fun r => k (a :: r)) = true := h
    exact rng_ok (n := n) (a := a + 1) (k := fun r => k (a :: r)) (forceN_ok (k := fun a' => rng n a' fun r => k (a :: r)) h)
theorem strs_ok : ∀ {l : List AV} {k : List Nat → Bool}, strz l k = true → ∃ ss, l = ss.map .str ∧ k ss = true
  | [], _, h => ⟨[], rfl, h⟩
  | v :: r, k, h => by
    cases v <;> try exact (nomatch (show false = true from h))
    rename_i s
    obtain ⟨ss, e, h⟩ := strs_ok (l := r) (k := fun r => k (s :: r)) h
    exact ⟨s :: ss, by rw [e]; rfl, h⟩
theorem natOf_ok {x : Int} {k : Nat → Bool} (h : natOf x k = true) : ∃ n : Nat, x = n ∧ k n = true := by
  cases x with
  | ofNat n => exact ⟨n, rfl, h⟩
  | negSucc n => exact (nomatch (show false = true from h))
theorem onOwn_ok {v : AV} {f : Nat → Bool} (h : onOwn v f = true) : ∃ i, v = .own i ∧ f i = true := by
  cases v <;> first | exact (nomatch (show false = true from h)) | exact ⟨_, rfl, h⟩
theorem onBytes_ok {v : AV} {f : List Nat → Bool} (h : onBytes v f = true) : ∃ l, v = .bytes l ∧ f l = true := by
  cases v <;> first | exact (nomatch (show false = true from h)) | exact ⟨_, rfl, h⟩
theorem onStr_ok {v : AV} {f : Nat → Bool} (h : onStr v f = true) : ∃ l, v = .str l ∧ f l = true := by
  cases v <;> first | exact (nomatch (show false = true from h)) | exact ⟨_, rfl, h⟩
theorem onInst_ok {o : AO} {f : Nat → FL → Bool} (h : onInst o f = true) : ∃ C fs, o = .inst C fs ∧ f C fs = true := by
  cases o <;> first | exact (nomatch (show false = true from h)) | exact ⟨_, _, rfl, h⟩
theorem onList_ok {o : AO} {f : List AV → Bool} (h : onList o f = true) : ∃ l, o = .list l ∧ f l = true := by
  cases o <;> first | exact (nomatch (show false = true from h)) | exact ⟨_, rfl, h⟩
theorem onTup_ok {o : AO} {f : List AV → Bool} (h : onTup o f = true) : ∃ l, o = .tup l ∧ f l = true := by
  cases o <;> first | exact (nomatch (show false = true from h)) | exact ⟨_, rfl, h⟩
theorem arg1_ok {as : List AV} {f : AV → Bool} (h : arg1 as f = true) : ∃ a, as = [a] ∧ f a = true := by
  match as, h with
  | [], h => exact (nomatch (show false = true from h))
  | [a], h => exact ⟨a, rfl, h⟩
  | _ :: _ :: _, h => exact (nomatch (show false = true from h))
theorem new_ok {σ : St} {o : AO} {k : K} (h : new σ o k = true) : ∃ hp, (∀ m, hp.at m = if m = σ.nx then some o else σ.hp.at m) ∧ k (.own σ.nx) ⟨hp, σ.nx + 1, σ.lo, σ.ms⟩ = true := by
  obtain ⟨hp, nx, lo, ms⟩ := σ
  have h : hp.put nx o (fun hp => forceN (nx + 1) fun nx' => k (.own nx) ⟨hp, nx', lo, ms⟩) = true := h
  obtain ⟨t', h, e⟩ := T.put_ok h
  exact ⟨t', e, forceN_ok h⟩
theorem upd_ok {σ : St} {i : Nat} {o : AO} {k : KS} (h : upd σ i o k = true) : ∃ hp, (∀ m, hp.at m = if m = i then some o else σ.hp.at m) ∧ k ⟨hp, σ.nx, σ.lo, σ.ms⟩ = true := by
  obtain ⟨hp, nx, lo, ms⟩ := σ
  have h : hp.put i o (fun hp => k ⟨hp, nx, lo, ms⟩) = true := h
  obtain ⟨t', h, e⟩ := T.put_ok h
  exact ⟨t', e, h⟩
theorem setLo_ok {σ : St} {lo : FL} {k : KS} (h : setLo σ lo k = true) : k ⟨σ.hp, σ.nx, lo, σ.ms⟩ = true := by
  obtain ⟨hp, nx, lo', ms⟩ := σ; exact h
theorem setMk_ok {σ : St} {t : Nat} {l : List Bool} {k : KS} (h : setMk σ t l k = true) : ∃ ms, (∀ y, ms.at y = if y = t then some l else σ.ms.at y) ∧ k ⟨σ.hp, σ.nx, σ.lo, ms⟩ = true := by
  obtain ⟨hp, nx, lo, ms⟩ := σ
  have h : ms.put t l (fun ms => k ⟨hp, nx, lo, ms⟩) = true := h
  obtain ⟨m', h, e⟩ := MK.put_ok h
  exact ⟨m', e, h⟩
end Mine
end
section
open PySem PySem.W PySem.Calls PyProof.Rows
namespace Mine
structure Cx where
  prog : Program
  w : World
  h₀ : Heap
  F : Frag
  nm : Nat → Str
  st : Nat → Str
  cls : Nat → Addr
  G : Addr
  B : Addr
  nmi : ∀ i j, nm i = nm j → i = j
  sti : ∀ i j, st i = st j → i = j
  stz : ∀ i, (st i).length ≤ 1000
  FIn : F.In h₀
  lim : h₀.NoLimit
  sys : (h₀.get? sysModules).isSome = true
structure Wd where
  ρ : List (Addr × Addr)
  j : List Nat
structure Wd.Le (a b : Wd) : Prop where
  ρ : ∀ (i : Nat) (p : Addr × Addr), a.ρ[i]? = some p → b.ρ[i]? = some p
  j : ∀ (i n : Nat), a.j[i]? = some n → b.j[i]? = some n
theorem Wd.Le.refl (a : Wd) : a.Le a := ⟨fun _ _ e => e, fun _ _ e => e⟩
theorem Wd.Le.trans {a b c : Wd} (x : a.Le b) (y : b.Le c) : a.Le c := ⟨fun i p e => y.ρ i p (x.ρ i p e), fun i n e => y.j i n (x.j i n e)⟩
noncomputable def Own (W : Wd) (b : Addr) : Prop := ∃ p ∈ W.ρ, b = p.1 ∨ b = p.2
inductive All2 {α β : Type} (R : α → β → Prop) : List α → List β → Prop
  | nil : All2 R [] []
  | cons {a b l l'} : R a b → All2 R l l' → All2 R (a :: l) (b :: l')
theorem All2.mono {α β : Type} {R R' : α → β → Prop} (h : ∀ a b, R a b → R' a b) : ∀ {l l'}, All2 R l l' → All2 R' l l'
  | _, _, .nil => .nil
  | _, _, .cons x y => .cons (h _ _ x) (y.mono h)
theorem All2.length {α β : Type} {R : α → β → Prop} : ∀ {l : List α} {l' : List β}, All2 R l l' → l.length = l'.length
  | _, _, .nil => rfl
  | _, _, .cons _ y => by rw [List.length_cons, List.length_cons, y.length]
theorem All2.get {α β : Type} {R : α → β → Prop} : ∀ {l : List α} {l' : List β}, All2 R l l' → ∀ {i : Nat} {a : α}, l[i]? = some a → ∃ b, l'[i]? = some b ∧ R a b
  | _, _, .nil, i, a, e => by simp at e
  | _, _, .cons x y, 0, a, e => by simp at e; subst e; exact ⟨_, by simp, x⟩
  | _, _, .cons x y, i + 1, a, e => by
    obtain ⟨b, h1, h2⟩ := y.get (i := i) (a := a) (by simpa using e)
    exact ⟨b, by simpa using h1, h2⟩
theorem All2.append {α β : Type} {R : α → β → Prop} : ∀ {l : List α} {l' : List β} {m : List α} {m' : List β}, All2 R l l' → All2 R m m' → All2 R (l ++ m) (l' ++ m')
  | _, _, _, _, .nil, h => h
  | _, _, _, _, .cons x y, h => .cons x (y.append h)
theorem All2.set {α β : Type} {R : α → β → Prop} : ∀ {l : List α} {l' : List β}, All2 R l l' → ∀ {i : Nat} {a : α} {b : β}, R a b → All2 R (l.set i a) (l'.set i b)
  | _, _, .nil, _, _, _, _ => .nil
  | _, _, .cons x y, 0, _, _, h => .cons h y
  | _, _, .cons x y, _ + 1, _, _, h => .cons x (y.set h)
noncomputable def VR (X : Cx) (W : Wd) : AV → Value → Prop
  | .none, v => v = .none
  | .tt, v => v = .bool true
  | .ff, v => v = .bool false
  | .int i, v => ∃ t, v = .int i t
  | .vec t l, v => ∃ n i k, W.j[t]? = some n ∧ l[n]? = some i ∧ v = .int i k
  | .str s, v => ∃ t, v = .str (X.st s) t
  | .bytes l, v => (l.length ≤ 10000 ∧ ∀ x ∈ l, x < 256) ∧ ∃ t, v = .bytes (l.map UInt8.ofNat).toArray t
  | .own i, v => ∃ p, W.ρ[i]? = some p ∧ v = .ref p.1
theorem VR.le {X : Cx} {W W' : Wd} (l : W.Le W') : ∀ {a : AV} {v : Value}, VR X W a v → VR X W' a v
  | .none, _, h => h
  | .tt, _, h => h
  | .ff, _, h => h
  | .int _, _, h => h
  | .vec _ _, _, ⟨n, i, k, a, b, c⟩ => ⟨n, i, k, l.j _ _ a, b, c⟩
  | .str _, _, h => h
  | .bytes _, _, h => h
  | .own _, _, ⟨p, a, b⟩ => ⟨p, l.ρ _ _ a, b⟩
noncomputable abbrev VRs (X : Cx) (W : Wd) : List AV → List Value → Prop := All2 (VR X W)
theorem VRs.le {X : Cx} {W W' : Wd} (l : W.Le W') {as : List AV} {vs : List Value} (h : VRs X W as vs) : VRs X W' as vs := h.mono fun _ _ x => x.le l
noncomputable def FR (X : Cx) (W : Wd) (fs : FL) (m : Str → Option Value) : Prop := ∀ x, match fs.at x with
  | some a => ∃ v, m (X.nm x) = some v ∧ VR X W a v
  | none => m (X.nm x) = none
theorem FR.le {X : Cx} {W W' : Wd} (l : W.Le W') {fs : FL} {m : Str → Option Value} (h : FR X W fs m) : FR X W' fs m := fun x => by
  have := h x
  revert this
  cases fs.at x with
  | none => exact id
  | some a => rintro ⟨v, e, q⟩; exact ⟨v, e, q.le l⟩
theorem FR.some {X : Cx} {W : Wd} {fs : FL} {m : Str → Option Value} (h : FR X W fs m) {x : Nat} {a : AV} (e : fs.at x = some a) : ∃ v, m (X.nm x) = some v ∧ VR X W a v := by
  have := h x
  rw [e] at this
  exact this
theorem FR.none {X : Cx} {W : Wd} {fs : FL} {m : Str → Option Value} (h : FR X W fs m) {x : Nat} (e : fs.at x = none) : m (X.nm x) = none := by
  have := h x
  rw [e] at this
  exact this
theorem FR.set {X : Cx} {W : Wd} {fs fs' : FL} {m : Str → Option Value} (h : FR X W fs m) {x : Nat} {a : AV} {v : Value} (e : ∀ y, fs'.at y = if y = x then Option.some a else fs.at y) (q : VR X W a v) :
    FR X W fs' fun s => if s = X.nm x then Option.some v else m s := fun y => by
  rw [e]
  by_cases hy : y = x
  · subst hy; rw [if_pos rfl]; exact ⟨v, if_pos rfl, q⟩
  · rw [if_neg hy]
    have := h y
    revert this
    have ne : X.nm y ≠ X.nm x := fun z => hy (X.nmi _ _ z)
    cases fs.at y with
    | none => intro z; show (if _ then _ else _) = _; rw [if_neg ne]; exact z
    | some a => rintro ⟨v, z, q⟩; exact ⟨v, (if_neg ne).trans z, q⟩
inductive DR (X : Cx) (W : Wd) : List (Int × AV) → List (Int × Value) → Prop
  | nil : DR X W [] []
  | cons {k a v l l'} : VR X W a v → DR X W l l' → DR X W ((k, a) :: l) ((k, v) :: l')
theorem DR.le {X : Cx} {W W' : Wd} (l : W.Le W') : ∀ {x y}, DR X W x y → DR X W' x y
  | _, _, .nil => .nil
  | _, _, .cons a b => .cons (a.le l) (b.le l)
noncomputable def NsZ (h : Heap) (a : Addr) (m : Str → Option Value) (z : Nat) : Prop := ∃ o es ep, h.get? a = some o ∧ o.data = .dict es ep ∧ StrKeys es ∧ (∀ name, nsFind es name = m name) ∧ es.size ≤ z
noncomputable def RO (X : Cx) (W : Wd) (h : Heap) (p : Addr × Addr) : AO → Prop
  | .inst C fs => p.1 ≠ p.2 ∧ h.get? p.1 = some (instObj (X.cls C) p.2) ∧ ∃ m, NsZ h p.2 m fs.count ∧ FR X W fs m
  | .list xs => xs.length ≤ 10000 ∧ ∃ vs n, h.get? p.1 = some { cls := .type "list", dict := none, data := .seq (List.toArray vs) n, slots := #[] } ∧ VRs X W xs vs
  | .tup xs => xs.length ≤ 10000 ∧ ∃ vs n, h.get? p.1 = some { cls := .type "tuple", dict := none, data := .seq (List.toArray vs) n, slots := #[] } ∧ VRs X W xs vs
  | .dict es => es.length ≤ 10000 ∧ ∃ kvs, h.DictOf (intKind X.prog X.w) p.1 kvs ∧ DR X W es kvs
  | .dictT _ => False
  | .barr l => l.length ≤ 10000 ∧ (∀ x ∈ l, x < 256) ∧ h.get? p.1 = some { cls := .type "bytearray", data := .bytearray (l.map UInt8.ofNat).toArray }
  | .range a b => ∃ ta tb tc, h.get? p.1 = some { cls := .type "range", data := .fields #[.int a ta, .int b tb, .int 1 tc] }
  | .it _ _ => False
  | .src => ∃ a b ta tb n, 0 ≤ a ∧ 0 ≤ b ∧ b < 2147483647 ∧ h.get? p.1 = some { cls := .type "list", dict := none, data := .seq #[.int a ta, .int b tb] n, slots := #[] }
theorem ns_at {h h' : Heap} {a : Addr} {m : Str → Option Value} (x : h.Ns a m) (e : ∀ o, h.get? a = some o → h'.get? a = some o) : h'.Ns a m := let ⟨o, es, ep, g, r⟩ := x; ⟨o, es, ep, e o g, r⟩
theorem nsZ_at {h h' : Heap} {a : Addr} {m : Str → Option Value} {z : Nat} (x : NsZ h a m z) (e : ∀ o, h.get? a = some o → h'.get? a = some o) : NsZ h' a m z := let ⟨o, es, ep, g, r⟩ := x; ⟨o, es, ep, e o g, r⟩
theorem RO.at {X : Cx} {W W' : Wd} {h h' : Heap} {p : Addr × Addr} (l : W.Le W') (e1 : ∀ o, h.get? p.1 = some o → h'.get? p.1 = some o) (e2 : ∀ o, h.get? p.2 = some o → h'.get? p.2 = some o) :
    ∀ {o : AO}, RO X W h p o → RO X W' h' p o
  | .inst C fs, ⟨a, b, m, c, d⟩ => ⟨a, e1 _ b, m, nsZ_at c e2, d.le l⟩
  | .list xs, ⟨z, vs, n, c, d⟩ => ⟨z, vs, n, e1 _ c, d.le l⟩
  | .tup xs, ⟨z, vs, n, c, d⟩ => ⟨z, vs, n, e1 _ c, d.le l⟩
  | .dict es, ⟨z, kvs, ⟨o, es', ep, g, r⟩, d⟩ => ⟨z, kvs, ⟨o, es', ep, e1 _ g, r⟩, d.le l⟩
  | .barr l, ⟨z, q, g⟩ => ⟨z, q, e1 _ g⟩
  | .range a b, ⟨ta, tb, tc, g⟩ => ⟨ta, tb, tc, e1 _ g⟩
  | .src, ⟨a, b, ta, tb, n, q1, q2, q3, c⟩ => ⟨a, b, ta, tb, n, q1, q2, q3, e1 _ c⟩
structure HRel (X : Cx) (W : Wd) (σ : St) (s : Shared) : Prop where
  base : ∀ b o, X.h₀.get? b = some o → s.heap.get? b = some o
  nx : σ.nx = W.ρ.length
  obj : ∀ (i : Nat) (p : Addr × Addr), W.ρ[i]? = some p → ∃ o, σ.hp.at i = some o ∧ RO X W s.heap p o
  inj : ∀ (i i' : Nat) (p p' : Addr × Addr), W.ρ[i]? = some p → W.ρ[i']? = some p' → i ≠ i' → (p.1 ≠ p'.1 ∧ p.1 ≠ p'.2) ∧ (p.2 ≠ p'.1 ∧ p.2 ≠ p'.2)
  old : ∀ b, Own W b → X.h₀.get? b = none
  ex : ∀ b, Own W b → (s.heap.get? b).isSome = true
  mask : ∀ t l, σ.ms.at t = some l → ∃ n : Nat, W.j[t]? = some n ∧ l[n]? = some true
  gens : s.gens = #[]
noncomputable def LRel (X : Cx) (W : Wd) (L : Addr) (lo : FL) (h : Heap) : Prop := ∃ m, h.Ns L m ∧ FR X W lo m ∧ ¬ Own W L ∧ X.h₀.get? L = none
structure Step (D : Addr → Prop) (s : Shared) (W : Wd) (s' : Shared) (W' : Wd) : Prop where
  le : W.Le W'
  keep : ∀ b o, s.heap.get? b = some o → ¬ Own W b → ¬ D b → s'.heap.get? b = some o
  own : ∀ b, Own W' b → Own W b ∨ s.heap.get? b = none
  stay : ∀ b, (s.heap.get? b).isSome = true → (s'.heap.get? b).isSome = true
  os : s'.os = s.os
noncomputable def Not' (_ : Addr) : Prop := False
theorem Step.refl (D : Addr → Prop) (s : Shared) (W : Wd) : Step D s W s W := ⟨.refl W, fun _ _ e _ _ => e, fun _ h => .inl h, fun _ h => h, rfl⟩
theorem Step.trans {D : Addr → Prop} {s s' s'' : Shared} {W W' W'' : Wd} (x : Step D s W s' W') (y : Step D s' W' s'' W'') : Step D s W s'' W'' := by
  refine ⟨x.le.trans y.le, fun b o e n d => y.keep b o (x.keep b o e n d) (fun q => ?_) d, fun b h => ?_, fun b h => y.stay b (x.stay b h), y.os.trans x.os⟩
  · rcases x.own b q with z | z
    · exact n z
    · rw [e] at z; cases z
  · rcases y.own b h with z | z
    · exact x.own b z
    · right
      cases q : s.heap.get? b with
      | none => rfl
      | some o =>
        have := x.stay b (by rw [q]; rfl)
        rw [z] at this
        cases this
theorem Step.weak {D D' : Addr → Prop} {s s' : Shared} {W W' : Wd} (x : Step D s W s' W') (h : ∀ b, D b → D' b) : Step D' s W s' W' :=
  ⟨x.le, fun b o e n d => x.keep b o e n fun z => d (h b z), x.own, x.stay, x.os⟩
noncomputable abbrev StepE := Step Not'
theorem StepE.to {D : Addr → Prop} {s s' : Shared} {W W' : Wd} (x : StepE s W s' W') : Step D s W s' W' := x.weak fun _ h => h.elim
theorem LRel.step {X : Cx} {W W' : Wd} {L : Addr} {lo : FL} {s s' : Shared} (h : LRel X W L lo s.heap) {D : Addr → Prop} (x : Step D s W s' W') (d : ¬ D L) : LRel X W' L lo s'.heap := by
  obtain ⟨m, n, f, o, o2⟩ := h
  obtain ⟨ob, es, ep, g, r⟩ := n
  refine ⟨m, ⟨ob, es, ep, x.keep _ _ g o d, r⟩, f.le x.le, fun q => ?_, o2⟩
  rcases x.own L q with z | z
  · exact o z
  · rw [g] at z; cases z
theorem LRel.stepE {X : Cx} {W W' : Wd} {L : Addr} {lo : FL} {s s' : Shared} (h : LRel X W L lo s.heap) (x : StepE s W s' W') : LRel X W' L lo s'.heap := h.step x id
theorem Step.toks {D : Addr → Prop} {s : Shared} {W : Wd} (t : Nat) : Step D s W { s with toks := t } W := ⟨.refl W, fun _ _ e _ _ => e, fun _ h => .inl h, fun _ h => h, rfl⟩
theorem HRel.toks {X : Cx} {W : Wd} {σ : St} {s : Shared} (h : HRel X W σ s) (t : Nat) : HRel X W σ { s with toks := t } := ⟨h.base, h.nx, h.obj, h.inj, h.old, h.ex, h.mask, h.gens⟩
theorem HRel.lo {X : Cx} {W : Wd} {σ : St} {s : Shared} (h : HRel X W σ s) (lo : FL) : HRel X W ⟨σ.hp, σ.nx, lo, σ.ms⟩ s := ⟨h.base, h.nx, h.obj, h.inj, h.old, h.ex, h.mask, h.gens⟩
noncomputable def Wd.add (W : Wd) (p : Addr × Addr) : Wd := ⟨W.ρ ++ [p], W.j⟩
theorem Wd.add_le (W : Wd) (p : Addr × Addr) : W.Le (W.add p) := ⟨fun i q e => by
  have := (List.getElem?_eq_some_iff.mp e).1
  show (W.ρ ++ [p])[i]? = _
  rw [List.getElem?_append_left this]; exact e, fun _ _ e => e⟩
theorem own_add {W : Wd} {p : Addr × Addr} {b : Addr} : Own (W.add p) b ↔ Own W b ∨ b = p.1 ∨ b = p.2 := by
  constructor
  · rintro ⟨q, hq, e⟩
    rcases List.mem_append.mp hq with m | m
    · exact .inl ⟨q, m, e⟩
    · rw [List.mem_singleton.mp m] at e; exact .inr e
  · rintro (⟨q, hq, e⟩ | e)
    · exact ⟨q, List.mem_append_left _ hq, e⟩
    · exact ⟨p, List.mem_append_right _ (List.mem_singleton.mpr rfl), e⟩
theorem HRel.new {X : Cx} {W : Wd} {σ : St} {s : Shared} (H : HRel X W σ s) {h' : Heap} {t : Nat} {p : Addr × Addr} {o : AO} {hp : T} (k : ∀ b o, s.heap.get? b = some o → h'.get? b = some o)
    (n1 : s.heap.get? p.1 = none) (n2 : s.heap.get? p.2 = none) (x1 : (h'.get? p.1).isSome = true) (x2 : (h'.get? p.2).isSome = true) (r : RO X (W.add p) h' p o) (e : ∀ m, hp.at m = if m = σ.nx then some o else σ.hp.at m) :
    HRel X (W.add p) ⟨hp, σ.nx + 1, σ.lo, σ.ms⟩ { s with heap := h', toks := t } ∧ StepE s W { s with heap := h', toks := t } (W.add p) := by
  have ne : ∀ b, Own W b → b ≠ p.1 ∧ b ≠ p.2 := fun b hb => by
    have := H.ex b hb
    constructor <;> rintro rfl <;> simp_all
  have at_ : ∀ (i : Nat) (q : Addr × Addr), (W.add p).ρ[i]? = some q → W.ρ[i]? = some q ∨ (i = W.ρ.length ∧ q = p) := fun i q hq => by
    have hq : (W.ρ ++ [p])[i]? = some q := hq
    by_cases hi : i < W.ρ.length
    · rw [List.getElem?_append_left hi] at hq; exact .inl hq
    · rw [List.getElem?_append_right (Nat.not_lt.mp hi)] at hq
      have h0 : i - W.ρ.length = 0 := by
        cases z : i - W.ρ.length with
        | zero => rfl
        | succ n => rw [z] at hq; simp at hq
      rw [h0] at hq
      simp at hq
      exact .inr ⟨by omega, hq.symm⟩
  have own_of : ∀ {i : Nat} {q : Addr × Addr}, W.ρ[i]? = some q → Own W q.1 ∧ Own W q.2 := fun hq => ⟨⟨_, List.mem_of_getElem? hq, .inl rfl⟩, ⟨_, List.mem_of_getElem? hq, .inr rfl⟩⟩
  refine ⟨⟨fun b o e => k b o (H.base b o e), by show σ.nx + 1 = (W.ρ ++ [p]).length; rw [List.length_append, H.nx]; rfl, fun i q hq => ?_, fun i i' q q' hq hq' n => ?_, fun b hb => ?_, fun b hb => ?_, H.mask, H.gens⟩,
    ⟨W.add_le p, fun b o e _ _ => k b o e, fun b hb => ?_, fun b hb => ?_, rfl⟩⟩
  · rcases at_ i q hq with z | ⟨rfl, rfl⟩
    · obtain ⟨o', h1, h2⟩ := H.obj i q z
      have : i ≠ σ.nx := by rw [H.nx]; have := (List.getElem?_eq_some_iff.mp z).1; omega
      exact ⟨o', by rw [e, if_neg this]; exact h1, h2.at (W.add_le p) (fun _ => k _ _) (fun _ => k _ _)⟩
    · exact ⟨o, by rw [e, if_pos H.nx.symm], r⟩
  · rcases at_ i q hq with z | ⟨rfl, rfl⟩ <;> rcases at_ i' q' hq' with z' | ⟨rfl, rfl⟩
    · exact H.inj i i' q q' z z' n
    · have a := ne _ (own_of z).1; have b := ne _ (own_of z).2
      exact ⟨a, b⟩
    · have a := ne _ (own_of z').1; have b := ne _ (own_of z').2
      exact ⟨⟨a.1.symm, b.1.symm⟩, ⟨a.2.symm, b.2.symm⟩⟩
    · exact absurd rfl n
  · rcases own_add.mp hb with z | rfl | rfl
    · exact H.old b z
    · cases q : X.h₀.get? p.1 with
      | none => rfl
      | some o => rw [H.base _ _ q] at n1; cases n1
    · cases q : X.h₀.get? p.2 with
      | none => rfl
      | some o => rw [H.base _ _ q] at n2; cases n2
  · rcases own_add.mp hb with z | rfl | rfl
    · obtain ⟨o, ho⟩ := Option.isSome_iff_exists.mp (H.ex b z)
      show (h'.get? b).isSome = true
      rw [k _ _ ho]; rfl
    · exact x1
    · exact x2
  · rcases own_add.mp hb with z | rfl | rfl
    · exact .inl z
    · exact .inr n1
    · exact .inr n2
  · obtain ⟨o, ho⟩ := Option.isSome_iff_exists.mp hb
    show (h'.get? b).isSome = true
    rw [k _ _ ho]; rfl
theorem HRel.grow {X : Cx} {W : Wd} {σ : St} {s : Shared} (H : HRel X W σ s) {h' : Heap} (k : ∀ b o, s.heap.get? b = some o → h'.get? b = some o) (t : Nat) :
    HRel X W σ { s with heap := h', toks := t } ∧ StepE s W { s with heap := h', toks := t } W := by
  have ex : ∀ b, (s.heap.get? b).isSome = true → (h'.get? b).isSome = true := fun b hb => by
    obtain ⟨o, ho⟩ := Option.isSome_iff_exists.mp hb
    rw [k _ _ ho]; rfl
  refine ⟨⟨fun b o e => k b o (H.base b o e), H.nx, fun i p hp => ?_, H.inj, H.old, fun b hb => ex b (H.ex b hb), H.mask, H.gens⟩, ⟨.refl W, fun b o e _ _ => k b o e, fun _ h => .inl h, ex, rfl⟩⟩
  obtain ⟨o, h1, h2⟩ := H.obj i p hp
  exact ⟨o, h1, h2.at (.refl W) (fun _ => k _ _) (fun _ => k _ _)⟩
theorem HRel.but {X : Cx} {W : Wd} {σ : St} {s : Shared} {I : Addr} (H : HRel X W σ s) {h' : Heap} (k : ∀ b o, b ≠ I → s.heap.get? b = some o → h'.get? b = some o) (hI : ¬ Own W I) (h0 : X.h₀.get? I = none) (t : Nat) :
    HRel X W σ { s with heap := h', toks := t } := by
  have ne : ∀ b, Own W b → b ≠ I := fun b hb e => hI (e ▸ hb)
  refine ⟨fun b o e => k b o (fun q => by rw [q, h0] at e; cases e) (H.base b o e), H.nx, fun i p hp => ?_, H.inj, H.old, fun b hb => ?_, H.mask, H.gens⟩
  · obtain ⟨o, h1, h2⟩ := H.obj i p hp
    have m1 : Own W p.1 := ⟨p, List.mem_of_getElem? hp, .inl rfl⟩
    have m2 : Own W p.2 := ⟨p, List.mem_of_getElem? hp, .inr rfl⟩
    exact ⟨o, h1, h2.at (.refl W) (fun o g => k _ o (ne _ m1) g) (fun o g => k _ o (ne _ m2) g)⟩
  · obtain ⟨o, ho⟩ := Option.isSome_iff_exists.mp (H.ex b hb)
    show (h'.get? b).isSome = true
    rw [k _ _ (ne b hb) ho]; rfl
theorem LRel.but {X : Cx} {W : Wd} {L I : Addr} {lo : FL} {h h' : Heap} (x : LRel X W L lo h) (k : ∀ b o, b ≠ I → h.get? b = some o → h'.get? b = some o) (ne : L ≠ I) : LRel X W L lo h' := by
  obtain ⟨m, ⟨ob, es, ep, g, r⟩, f, o⟩ := x
  exact ⟨m, ⟨ob, es, ep, k _ _ ne g, r⟩, f, o⟩
theorem Step.since {D D' : Addr → Prop} {s₀ s₁ s s' : Shared} {W W' : Wd} (k0 : ∀ b o, s₀.heap.get? b = some o → s₁.heap.get? b = some o) (x : Step D s₁ W s W') (os : s₁.os = s₀.os) (k1 : ∀ b o, ¬ D b → s.heap.get? b = some o → s'.heap.get? b = some o)
    (os' : s'.os = s.os) (hD : ∀ b, D b → (s₀.heap.get? b).isSome = true → D' b) (hS : ∀ b, D b → (s₀.heap.get? b).isSome = true → (s'.heap.get? b).isSome = true) : Step D' s₀ W s' W' where
  le := x.le
  keep := fun b o g n d => by
    have nd : ¬ D b := fun z => d (hD b z (by rw [g]; rfl))
    exact k1 b o nd (x.keep b o (k0 b o g) n nd)
  own := fun b hb => by
    rcases x.own b hb with z | z
    · exact .inl z
    · refine .inr ?_
      cases q : s₀.heap.get? b with
      | none => rfl
      | some o => rw [k0 _ _ q] at z; cases z
  stay := fun b hb => by
    by_cases q : D b
    · exact hS b q hb
    · obtain ⟨o, g⟩ := Option.isSome_iff_exists.mp (x.stay b (by obtain ⟨o, g⟩ := Option.isSome_iff_exists.mp hb; rw [k0 _ _ g]; rfl))
      rw [k1 b o q g]; rfl
  os := os'.trans (x.os.trans os)
theorem HRel.upd {X : Cx} {W : Wd} {σ : St} {s : Shared} (H : HRel X W σ s) {h' : Heap} {t : Nat} {i : Nat} {p : Addr × Addr} {o : AO} {hp : T} (hi : W.ρ[i]? = some p)
    (k : ∀ b, b ≠ p.1 → b ≠ p.2 → h'.get? b = s.heap.get? b) (x1 : (h'.get? p.1).isSome = true) (x2 : (h'.get? p.2).isSome = true) (r : RO X W h' p o) (e : ∀ m, hp.at m = if m = i then some o else σ.hp.at m) :
    HRel X W ⟨hp, σ.nx, σ.lo, σ.ms⟩ { s with heap := h', toks := t } ∧ StepE s W { s with heap := h', toks := t } W := by
  have mine : Own W p.1 ∧ Own W p.2 := ⟨⟨_, List.mem_of_getElem? hi, .inl rfl⟩, ⟨_, List.mem_of_getElem? hi, .inr rfl⟩⟩
  have keep : ∀ b, ¬ (b = p.1 ∨ b = p.2) → h'.get? b = s.heap.get? b := fun b n => k b (fun z => n (.inl z)) fun z => n (.inr z)
  have stay : ∀ b, (s.heap.get? b).isSome = true → (h'.get? b).isSome = true := fun b hb => by
    by_cases z : b = p.1 ∨ b = p.2
    · rcases z with rfl | rfl
      · exact x1
      · exact x2
    · rw [keep b z]; exact hb
  refine ⟨⟨fun b o e => ?_, H.nx, fun i' q hq => ?_, H.inj, H.old, fun b hb => stay b (H.ex b hb), H.mask, H.gens⟩, ⟨.refl W, fun b o e n _ => ?_, fun _ h => .inl h, stay, rfl⟩⟩
  · show h'.get? b = some o
    rw [keep b, H.base b o e]
    rintro (rfl | rfl)
    · rw [H.old _ mine.1] at e; cases e
    · rw [H.old _ mine.2] at e; cases e
  · by_cases z : i' = i
    · subst z
      rw [hi] at hq
      cases hq
      exact ⟨o, by rw [e, if_pos rfl], r⟩
    · obtain ⟨o', h1, h2⟩ := H.obj i' q hq
      obtain ⟨⟨a1, a2⟩, a3, a4⟩ := H.inj i' i q p hq hi z
      exact ⟨o', by rw [e, if_neg z]; exact h1, h2.at (.refl W) (fun o e => by rw [k _ a1 a2]; exact e) (fun o e => by rw [k _ a3 a4]; exact e)⟩
  · show h'.get? b = some o
    rw [keep b, e]
    rintro (rfl | rfl)
    · exact n mine.1
    · exact n mine.2
structure EnvOk (X : Cx) (sc : List (Str × NameKind)) (env : Env) (L : Addr) : Prop where
  kind : env.scope.kind = .function
  names : env.scope.names = sc
  loc : env.locals = L
  glob : env.globals = X.G
  blt : env.builtins = X.B
structure Room (n : Nat) (A : Around) : Prop where
  hand : A.handled = none
  dep : A.depth + n ≤ 900
  un : A.units + 200 * n ≤ 9000
noncomputable def Cont (X : Cx) (σ : St) (s : Shared) (W : Wd) (k : K) (Q : Value → Shared → Prop) : Prop :=
  ∀ v σ' W' s' a, k v σ' = true → σ'.lo = σ.lo → StepE s W s' W' → HRel X W' σ' s' → VR X W' v a → Q a s'
noncomputable def ContB (X : Cx) (σ : St) (s : Shared) (W : Wd) (k : KB) (Q : Bool → Shared → Prop) : Prop :=
  ∀ c σ' W' s', k c σ' = true → σ'.lo = σ.lo → StepE s W s' W' → HRel X W' σ' s' → Q c s'
noncomputable def ContL (X : Cx) (N : Nat) (σ : St) (s : Shared) (W : Wd) (k : KL) (Q : List Value → Shared → Prop) : Prop :=
  ∀ vs σ' W' s' as, k vs σ' = true → vs.length = N → σ'.lo = σ.lo → StepE s W s' W' → HRel X W' σ' s' → VRs X W' vs as → Q as s'
theorem Cont.step {X : Cx} {σ σ' : St} {s s' : Shared} {W W' : Wd} {k : K} {Q : Value → Shared → Prop} (C : Cont X σ s W k Q) (e : σ'.lo = σ.lo) (x : StepE s W s' W') : Cont X σ' s' W' k Q :=
  fun v σ₂ W₂ s₂ a h e₂ x₂ H V => C v σ₂ W₂ s₂ a h (e₂.trans e) (x.trans x₂) H V
theorem ContB.step {X : Cx} {σ σ' : St} {s s' : Shared} {W W' : Wd} {k : KB} {Q : Bool → Shared → Prop} (C : ContB X σ s W k Q) (e : σ'.lo = σ.lo) (x : StepE s W s' W') : ContB X σ' s' W' k Q :=
  fun v σ₂ W₂ s₂ h e₂ x₂ H => C v σ₂ W₂ s₂ h (e₂.trans e) (x.trans x₂) H
section
variable (X : Cx) (n : Nat) (sc : List (Str × NameKind))
noncomputable def SimE (m : M) (e : Expr) : Prop := ∀ (env : Env) (L : Addr), EnvOk X sc env L → ∀ (A : Around), Room n A → ∀ (σ : St) (k : K), m σ k = true → ∀ (E : Value → Shared → Prop) (s : Shared) (W : Wd) (Q : Value → Shared → Prop),
  HRel X W σ s → LRel X W L σ.lo s.heap → Cont X σ s W k Q → wpAny (model X.prog X.w) A (eval e env) Q E s
noncomputable def SimT (m : MB) (e : Expr) : Prop := ∀ (env : Env) (L : Addr), EnvOk X sc env L → ∀ (A : Around), Room n A → ∀ (σ : St) (k : KB), m σ k = true → ∀ (E : Value → Shared → Prop) (s : Shared) (W : Wd) (Q : Bool → Shared → Prop),
  HRel X W σ s → LRel X W L σ.lo s.heap → ContB X σ s W k Q → wpAny (model X.prog X.w) A (isTrue e env (eval e env)) Q E s
noncomputable def SimV (m : MB) (e : Expr) : Prop := ∀ (env : Env) (L : Addr), EnvOk X sc env L → ∀ (A : Around), Room n A → ∀ (σ : St) (k : KB), m σ k = true → ∀ (E : Value → Shared → Prop) (s : Shared) (W : Wd) (Q : Bool → Shared → Prop),
  HRel X W σ s → LRel X W L σ.lo s.heap → ContB X σ s W k Q → wpAny (model X.prog X.w) A (eval e env) (fun v s' => ∃ c, v = .bool c ∧ Q c s') E s
noncomputable def SimL (m : ML) (es : List Expr) : Prop := ∀ (pos : Pos) (env : Env) (L : Addr), EnvOk X sc env L → ∀ (A : Around), Room n A → ∀ (σ : St) (k : KL), m σ k = true → ∀ (E : Value → Shared → Prop) (s : Shared) (W : Wd) (Q : List Value → Shared → Prop),
  HRel X W σ s → LRel X W L σ.lo s.heap → ContL X es.length σ s W k Q → wpAny (model X.prog X.w) A (spliced (backTo pos (starEach es env))) Q E s
noncomputable def Op2 (f : AV → AV → St → K → Bool) (t : Value → Value → Sem Value) : Prop := ∀ (A : Around), Room n A → ∀ (a b : AV) (σ : St) (k : K), f a b σ k = true → ∀ (E : Value → Shared → Prop) (s : Shared) (W : Wd) (Q : Value → Shared → Prop) (va vb : Value),
  HRel X W σ s → VR X W a va → VR X W b vb → Cont X σ s W k Q → wpAny (model X.prog X.w) A (t va vb) Q E s
noncomputable def Rel2 (f : AV → AV → St → KB → Bool) (t : Value → Value → Sem Value) : Prop := ∀ (A : Around), Room n A → ∀ (a b : AV) (σ : St) (k : KB), f a b σ k = true → ∀ (E : Value → Shared → Prop) (s : Shared) (W : Wd) (Q : Bool → Shared → Prop) (va vb : Value),
  HRel X W σ s → VR X W a va → VR X W b vb → ContB X σ s W k Q → wpAny (model X.prog X.w) A (t va vb) (fun v s' => ∃ c, v = .bool c ∧ Q c s') E s
noncomputable def RelN (f : AV → AV → St → KB → Bool) (t : Value → Value → Sem Value) : Prop := ∀ (A : Around), Room n A → ∀ (a b : AV) (σ : St) (k : KB), f a b σ k = true → ∀ (E : Value → Shared → Prop) (s : Shared) (W : Wd) (Q : Bool → Shared → Prop) (va vb : Value),
  HRel X W σ s → VR X W a va → VR X W b vb → ContB X σ s W k Q → wpAny (model X.prog X.w) A (t va vb) (fun v s' => ∃ c, v = .bool (!c) ∧ Q c s') E s
end
section
variable {X : Cx} {n : Nat} {sc : List (Str × NameKind)}
theorem SimE.loc {x : Str} {pos : Pos} {i : Nat} (hx : X.nm i = x) (hl : sc.lookup x = some .local) (hd : (x == ("__debug__" : Str)) = false) : SimE X n sc (loc i) (.Name x pos) := by
  intro env L hE A hA σ k h E s W Q H hL C
  obtain ⟨v, e, h⟩ := look_ok (l := σ.lo) h
  obtain ⟨m, hn, hf, ho⟩ := hL
  obtain ⟨a, e1, V⟩ := hf.some e
  exact wpAny_Name (wpAny_loadName_local hE.kind (by rw [Env.kindOf, hE.names]; exact hl) (hE.loc ▸ hn) (hx ▸ e1) (C _ _ _ _ _ h rfl (.refl ..) H V)) hd
theorem SimE.int {i : Int} {k : Nat} {pos : Pos} : SimE X n sc (cst (.int i)) (.Constant (.int i) k pos) := by
  intro env L hE A hA σ k h E s W Q H hL C
  exact wpAny_Constant_int (C _ _ _ _ _ h rfl (Step.toks _) (H.toks _) ⟨_, rfl⟩)
theorem SimE.str {x : Str} {i : Nat} {k : Nat} {pos : Pos} (hx : X.st i = x) : SimE X n sc (cst (.str i)) (.Constant (.str x) k pos) := by
  intro env L hE A hA σ k h E s W Q H hL C
  exact Constant_str (C _ _ _ _ _ h rfl (Step.toks _) (H.toks _) ⟨_, by rw [hx]⟩)
theorem SimE.none' {k : Nat} {pos : Pos} : SimE X n sc (cst .none) (.Constant .none k pos) := by
  intro env L hE A hA σ k h E s W Q H hL C
  exact fun _ _ _ => C _ _ _ _ _ h rfl (.refl ..) H rfl
theorem SimE.tt {k : Nat} {pos : Pos} : SimE X n sc (cst .tt) (.Constant (.bool true) k pos) := by
  intro env L hE A hA σ k h E s W Q H hL C
  exact fun _ _ _ => C _ _ _ _ _ h rfl (.refl ..) H rfl
theorem SimE.ff {k : Nat} {pos : Pos} : SimE X n sc (cst .ff) (.Constant (.bool false) k pos) := by
  intro env L hE A hA σ k h E s W Q H hL C
  exact fun _ _ _ => C _ _ _ _ _ h rfl (.refl ..) H rfl
theorem glob_ok {x : Str} {v : Value} {env : Env} {L : Addr} {A : Around} {E : Value → Shared → Prop} {s : Shared} {W : Wd} {σ : St} {Q : Value → Shared → Prop} {pos : Pos} (hE : EnvOk X sc env L) (hg : nsIn X.F X.G x = some (some v))
    (hl : sc.lookup x = some .globalImplicit) (hd : (x == ("__debug__" : Str)) = false) (H : HRel X W σ s) (q : Q v s) : wpAny (model X.prog X.w) A (eval (.Name x pos) env) Q E s := by
  refine Name_function_global hE.kind (by rw [Env.kindOf, hE.names]; exact hl) ?_ hd
  unfold loadGlobal
  rw [hE.glob]
  exact wpAny_bind ((looks_nsIn (X.FIn.keeps H.base) hg).here (wpAny_pure q))
theorem builtin_ok {x : Str} {v : Value} {env : Env} {L : Addr} {A : Around} {E : Value → Shared → Prop} {s : Shared} {W : Wd} {σ : St} {Q : Value → Shared → Prop} {pos : Pos} (hE : EnvOk X sc env L) (hg : nsIn X.F X.G x = some none)
    (hb : nsIn X.F X.B x = some (some v)) (hl : sc.lookup x = some .globalImplicit) (hd : (x == ("__debug__" : Str)) = false) (H : HRel X W σ s) (q : Q v s) : wpAny (model X.prog X.w) A (eval (.Name x pos) env) Q E s := by
  refine Name_function_global hE.kind (by rw [Env.kindOf, hE.names]; exact hl) ?_ hd
  unfold loadGlobal
  rw [hE.glob, hE.blt]
  exact wpAny_bind ((looks_nsIn (X.FIn.keeps H.base) hg).here (wpAny_bind ((looks_nsIn (X.FIn.keeps H.base) hb).here (wpAny_pure q))))
theorem SimE.glob {x : Str} {pos : Pos} {a : AV} {v : Value} (hg : nsIn X.F X.G x = some (some v)) (hV : ∀ W, VR X W a v) (hl : sc.lookup x = some .globalImplicit) (hd : (x == ("__debug__" : Str)) = false) :
    SimE X n sc (cst a) (.Name x pos) := by
  intro env L hE A hA σ k h E s W Q H hL C
  exact glob_ok hE hg hl hd H (C _ _ _ _ _ h rfl (.refl ..) H (hV W))
theorem SimE.bin {f : AV → AV → St → K → Bool} {op : Operator} {a b : M} {l r : Expr} {pos : Pos} (hf : Op2 X n f (binaryOp op)) (ha : SimE X n sc a l) (hb : SimE X n sc b r) : SimE X n sc (bin f a b) (.BinOp l op r pos) := by
  intro env L hE A hA σ k h E s W Q H hL C
  refine wpAny_BinOp (ha env L hE A hA σ _ h E s W _ H hL fun v σ₁ W₁ s₁ va h₁ e₁ x₁ H₁ V₁ => ?_)
  refine hb env L hE A hA σ₁ _ h₁ E s₁ W₁ _ H₁ (e₁ ▸ hL.stepE x₁) fun u σ₂ W₂ s₂ vb h₂ e₂ x₂ H₂ V₂ => ?_
  exact hf A hA v u σ₂ k h₂ E s₂ W₂ Q va vb H₂ (V₁.le x₂.le) V₂ (C.step (e₂.trans e₁) (x₁.trans x₂))
theorem SimT.rel {f : AV → AV → St → KB → Bool} {op : CmpOp} {a b : M} {l r : Expr} {pos : Pos} (hf : Rel2 X n f (compareOp op)) (hm : behindInMarks op r = false) (ha : SimE X n sc a l) (hb : SimE X n sc b r) : SimT X n sc (rel f a b) (.Compare l [op] [r] pos) := by
  intro env L hE A hA σ k h E s W Q H hL C
  refine wpAny_isTrue_Compare1 (ha env L hE A hA σ _ h E s W _ H hL fun v σ₁ W₁ s₁ va h₁ e₁ x₁ H₁ V₁ => ?_) hm
  refine hb env L hE A hA σ₁ _ h₁ E s₁ W₁ _ H₁ (e₁ ▸ hL.stepE x₁) fun u σ₂ W₂ s₂ vb h₂ e₂ x₂ H₂ V₂ => ?_
  refine wpAny_mono (hf A hA v u σ₂ k h₂ E s₂ W₂ Q va vb H₂ (V₁.le x₂.le) V₂ (C.step (e₂.trans e₁) (x₁.trans x₂))) ?_ fun _ _ z => z
  rintro _ s' ⟨c, rfl, q⟩
  exact wpAny_truthy_bool q
theorem SimV.rel {f : AV → AV → St → KB → Bool} {op : CmpOp} {a b : M} {l r : Expr} {pos : Pos} (hf : Rel2 X n f (compareOp op)) (hm : behindInMarks op r = false) (ha : SimE X n sc a l) (hb : SimE X n sc b r) : SimV X n sc (rel f a b) (.Compare l [op] [r] pos) := by
  intro env L hE A hA σ k h E s W Q H hL C
  refine wpAny_Compare1 (ha env L hE A hA σ _ h E s W _ H hL fun v σ₁ W₁ s₁ va h₁ e₁ x₁ H₁ V₁ => ?_) hm
  refine hb env L hE A hA σ₁ _ h₁ E s₁ W₁ _ H₁ (e₁ ▸ hL.stepE x₁) fun u σ₂ W₂ s₂ vb h₂ e₂ x₂ H₂ V₂ => ?_
  exact hf A hA v u σ₂ k h₂ E s₂ W₂ Q va vb H₂ (V₁.le x₂.le) V₂ (C.step (e₂.trans e₁) (x₁.trans x₂))
theorem kNot_ok {k : KB} {c : Bool} {σ : St} (h : kNot k c σ = true) : k (!c) σ = true := by cases c <;> exact h
theorem SimT.relN {f : AV → AV → St → KB → Bool} {op : CmpOp} {a b : M} {l r : Expr} {pos : Pos} (hf : RelN X n f (compareOp op)) (hm : behindInMarks op r = false) (ha : SimE X n sc a l) (hb : SimE X n sc b r) : SimT X n sc (notB (Mine.rel f a b)) (.Compare l [op] [r] pos) := by
  intro env L hE A hA σ k h E s W Q H hL C
  refine wpAny_isTrue_Compare1 (ha env L hE A hA σ _ h E s W _ H hL fun v σ₁ W₁ s₁ va h₁ e₁ x₁ H₁ V₁ => ?_) hm
  refine hb env L hE A hA σ₁ _ h₁ E s₁ W₁ _ H₁ (e₁ ▸ hL.stepE x₁) fun u σ₂ W₂ s₂ vb h₂ e₂ x₂ H₂ V₂ => ?_
  refine wpAny_mono (hf A hA v u σ₂ _ h₂ E s₂ W₂ (fun c s' => Q (!c) s') va vb H₂ (V₁.le x₂.le) V₂ fun c σ' W' s' h' e' x' H' => C _ _ _ _ (kNot_ok h') (e'.trans (e₂.trans e₁)) ((x₁.trans x₂).trans x') H') ?_ fun _ _ z => z
  rintro _ s' ⟨c, rfl, q⟩
  exact wpAny_truthy_bool q
theorem SimT.not {m : MB} {x : Expr} {pos : Pos} (hm : SimT X n sc m x) : SimT X n sc (notB m) (.UnaryOp .Not x pos) := by
  intro env L hE A hA σ k h E s W Q H hL C
  exact isTrue_not (hm env L hE A hA σ _ h E s W _ H hL fun c σ' W' s' h' e' x' H' => C _ _ _ _ (kNot_ok h') e' x' H')
theorem SimV.not {m : MB} {x : Expr} {pos : Pos} (hm : SimV X n sc m x) : SimV X n sc (notB m) (.UnaryOp .Not x pos) := by
  intro env L hE A hA σ k h E s W Q H hL C
  refine UnaryOp_ (wpAny_mono (hm env L hE A hA σ _ h E s W (fun c s' => Q (!c) s') H hL fun c σ' W' s' h' e' x' H' => C _ _ _ _ (kNot_ok h') e' x' H') ?_ fun _ _ z => z)
  rintro _ s' ⟨c, rfl, q⟩
  exact not_of (wpAny_truthy_bool ⟨_, rfl, q⟩)
theorem SimT.and {a b : MB} {x y : Expr} {pos : Pos} (ha : SimT X n sc a x) {rest : List Expr} (hb : SimT X n sc b (.BoolOp .And (y :: rest) pos)) : SimT X n sc (andB a b) (.BoolOp .And (x :: y :: rest) pos) := by
  intro env L hE A hA σ k h E s W Q H hL C
  refine isTrue_and (ha env L hE A hA σ _ h E s W _ H hL fun c σ₁ W₁ s₁ h₁ e₁ x₁ H₁ => ?_)
  cases c with
  | false => exact C _ _ _ _ h₁ e₁ x₁ H₁
  | true => exact hb env L hE A hA σ₁ _ h₁ E s₁ W₁ _ H₁ (e₁ ▸ hL.stepE x₁) (C.step e₁ x₁)
theorem SimT.and1 {a : MB} {x : Expr} {pos : Pos} (ha : SimT X n sc a x) : SimT X n sc a (.BoolOp .And [x] pos) := by
  intro env L hE A hA σ k h E s W Q H hL C
  refine isTrue_and (ha env L hE A hA σ _ h E s W _ H hL fun c σ₁ W₁ s₁ h₁ e₁ x₁ H₁ => ?_)
  cases c with
  | false => exact C _ _ _ _ h₁ e₁ x₁ H₁
  | true => exact isTrue_and_nil (C _ _ _ _ h₁ e₁ x₁ H₁)
theorem SimT.or {a b : MB} {x y : Expr} {pos : Pos} (ha : SimT X n sc a x) {rest : List Expr} (hb : SimT X n sc b (.BoolOp .Or (y :: rest) pos)) : SimT X n sc (orB a b) (.BoolOp .Or (x :: y :: rest) pos) := by
  intro env L hE A hA σ k h E s W Q H hL C
  refine isTrue_or (ha env L hE A hA σ _ h E s W _ H hL fun c σ₁ W₁ s₁ h₁ e₁ x₁ H₁ => ?_)
  cases c with
  | true => exact C _ _ _ _ h₁ e₁ x₁ H₁
  | false => exact hb env L hE A hA σ₁ _ h₁ E s₁ W₁ _ H₁ (e₁ ▸ hL.stepE x₁) (C.step e₁ x₁)
theorem SimT.or1 {a : MB} {x : Expr} {pos : Pos} (ha : SimT X n sc a x) : SimT X n sc a (.BoolOp .Or [x] pos) := by
  intro env L hE A hA σ k h E s W Q H hL C
  refine isTrue_or (ha env L hE A hA σ _ h E s W _ H hL fun c σ₁ W₁ s₁ h₁ e₁ x₁ H₁ => ?_)
  cases c with
  | true => exact C _ _ _ _ h₁ e₁ x₁ H₁
  | false => exact isTrue_or_nil (C _ _ _ _ h₁ e₁ x₁ H₁)
theorem SimV.and {a b : MB} {x y : Expr} {pos : Pos} (ha : SimV X n sc a x) {rest : List Expr} (hb : SimV X n sc b (.BoolOp .And (y :: rest) pos)) : SimV X n sc (andB a b) (.BoolOp .And (x :: y :: rest) pos) := by
  intro env L hE A hA σ k h E s W Q H hL C
  refine BoolOp_and (wpAny_mono (ha env L hE A hA σ _ h E s W (fun c s' => if c = true then wpAny (model X.prog X.w) A (eval (.BoolOp .And (y :: rest) pos) env) (fun v s' => ∃ c, v = .bool c ∧ Q c s') E s' else Q false s') H hL fun c σ₁ W₁ s₁ h₁ e₁ x₁ H₁ => ?_) ?_ fun _ _ z => z)
  · cases c with
    | false => exact C _ _ _ _ h₁ e₁ x₁ H₁
    | true => exact hb env L hE A hA σ₁ _ h₁ E s₁ W₁ _ H₁ (e₁ ▸ hL.stepE x₁) (C.step e₁ x₁)
  · rintro _ s' ⟨c, rfl, q⟩
    refine wpAny_truthy_bool ?_
    cases c with
    | false => exact ⟨_, rfl, q⟩
    | true => exact q
theorem SimV.and1 {a : MB} {x : Expr} {pos : Pos} (ha : SimV X n sc a x) : SimV X n sc a (.BoolOp .And [x] pos) := by
  intro env L hE A hA σ k h E s W Q H hL C
  exact BoolOp_one (ha env L hE A hA σ k h E s W Q H hL C)
theorem SimV.or {a b : MB} {x y : Expr} {pos : Pos} (ha : SimV X n sc a x) {rest : List Expr} (hb : SimV X n sc b (.BoolOp .Or (y :: rest) pos)) : SimV X n sc (orB a b) (.BoolOp .Or (x :: y :: rest) pos) := by
  intro env L hE A hA σ k h E s W Q H hL C
  refine BoolOp_or (wpAny_mono (ha env L hE A hA σ _ h E s W (fun c s' => if c = true then Q true s' else wpAny (model X.prog X.w) A (eval (.BoolOp .Or (y :: rest) pos) env) (fun v s' => ∃ c, v = .bool c ∧ Q c s') E s') H hL fun c σ₁ W₁ s₁ h₁ e₁ x₁ H₁ => ?_) ?_ fun _ _ z => z)
  · cases c with
    | true => exact C _ _ _ _ h₁ e₁ x₁ H₁
    | false => exact hb env L hE A hA σ₁ _ h₁ E s₁ W₁ _ H₁ (e₁ ▸ hL.stepE x₁) (C.step e₁ x₁)
  · rintro _ s' ⟨c, rfl, q⟩
    refine wpAny_truthy_bool ?_
    cases c with
    | true => exact ⟨_, rfl, q⟩
    | false => exact q
theorem SimV.or1 {a : MB} {x : Expr} {pos : Pos} (ha : SimV X n sc a x) : SimV X n sc a (.BoolOp .Or [x] pos) := by
  intro env L hE A hA σ k h E s W Q H hL C
  exact BoolOp_one (ha env L hE A hA σ k h E s W Q H hL C)
theorem kB_ok {k : K} {c : Bool} {σ : St} {s s' : Shared} {W W' : Wd} {σ₀ : St} {Q : Value → Shared → Prop} (C : Cont X σ₀ s W k Q) (h : kB k c σ = true) (e : σ.lo = σ₀.lo) (x : StepE s W s' W') (H : HRel X W' σ s') : Q (.bool c) s' := by
  cases c with
  | true => exact C .tt _ _ _ _ h e x H rfl
  | false => exact C .ff _ _ _ _ h e x H rfl
theorem SimE.val {m : MB} {e : Expr} (hm : SimV X n sc m e) : SimE X n sc (val m) e := by
  intro env L hE A hA σ k h E s W Q H hL C
  refine wpAny_mono (hm env L hE A hA σ _ h E s W (fun c s' => Q (.bool c) s') H hL fun c σ' W' s' h' e' x' H' => kB_ok C h' e' x' H') ?_ fun _ _ z => z
  rintro _ s' ⟨c, rfl, q⟩
  exact q
theorem kTruth_ok {k : KB} {v : AV} {a : Value} {σ : St} {W : Wd} (V : VR X W v a) (h : kTruth k v σ = true) : ∃ c, a = .bool c ∧ k c σ = true := by
  cases v <;> first | exact (nomatch (show false = true from h)) | exact ⟨_, V, h⟩
theorem SimV.truth {m : M} {e : Expr} (hm : SimE X n sc m e) : SimV X n sc (truth m) e := by
  intro env L hE A hA σ k h E s W Q H hL C
  refine hm env L hE A hA σ _ h E s W _ H hL fun v σ₁ W₁ s₁ a h₁ e₁ x₁ H₁ V₁ => ?_
  obtain ⟨c, rfl, h₁⟩ := kTruth_ok V₁ h₁
  exact ⟨c, rfl, C _ _ _ _ h₁ e₁ x₁ H₁⟩
theorem SimT.truth {m : M} {e : Expr} (hm : SimE X n sc m e) (he : ∀ (env : Env) (whole : Sem Value), isTrue e env whole = (do let v ← whole; standAt e.pos; holding [v] (truthy v))) : SimT X n sc (truth m) e := by
  intro env L hE A hA σ k h E s W Q H hL C
  refine isTrue_plain (hm env L hE A hA σ _ h E s W _ H hL fun v σ₁ W₁ s₁ a h₁ e₁ x₁ H₁ V₁ => ?_) (he _ _)
  obtain ⟨c, rfl, h₁⟩ := kTruth_ok V₁ h₁
  exact wpAny_truthy_bool (C _ _ _ _ h₁ e₁ x₁ H₁)
theorem SimE.ifx {t : MB} {a b : M} {te x y : Expr} {pos : Pos} (ht : SimT X n sc t te) (ha : SimE X n sc a x) (hb : SimE X n sc b y) : SimE X n sc (ifx t a b) (.IfExp te x y pos) := by
  intro env L hE A hA σ k h E s W Q H hL C
  refine IfExp_ (ht env L hE A hA σ _ h E s W _ H hL fun c σ₁ W₁ s₁ h₁ e₁ x₁ H₁ => ?_)
  cases c with
  | true => exact ha env L hE A hA σ₁ _ h₁ E s₁ W₁ _ H₁ (e₁ ▸ hL.stepE x₁) (C.step e₁ x₁)
  | false => exact hb env L hE A hA σ₁ _ h₁ E s₁ W₁ _ H₁ (e₁ ▸ hL.stepE x₁) (C.step e₁ x₁)
theorem kNone_ok {k : KB} {v : AV} {a : Value} {σ : St} {W : Wd} (V : VR X W v a) (h : kNone k v σ = true) : k (a == .none) σ = true := by
  cases v with
  | none => rw [show a = .none from V]; exact h
  | tt => rw [show a = _ from V]; exact h
  | ff => rw [show a = _ from V]; exact h
  | int i => obtain ⟨t, rfl⟩ := V; exact h
  | vec t l => obtain ⟨_, _, _, _, _, rfl⟩ := V; exact h
  | str x => obtain ⟨t, rfl⟩ := V; exact h
  | bytes x => obtain ⟨_, t, rfl⟩ := V; exact h
  | own i => obtain ⟨p, _, rfl⟩ := V; exact h
theorem none_ok {M : Model} {A : Around} {env : Env} {k : Nat} {p : Pos} {E : Value → Shared → Prop} {s : Shared} {Q : Value → Shared → Prop} (q : Q .none s) : wpAny M A (eval (.Constant .none k p) env) Q E s := by
  show wpAny M A (pure Value.none) Q E s
  exact wpAny_pure q
theorem SimT.isNone {a : M} {l : Expr} {k : Nat} {p pos : Pos} (ha : SimE X n sc a l) : SimT X n sc (Mine.isNone a) (.Compare l [.Is] [.Constant .none k p] pos) := by
  intro env L hE A hA σ k h E s W Q H hL C
  refine wpAny_isTrue_Compare1 (ha env L hE A hA σ _ h E s W _ H hL fun v σ₁ W₁ s₁ va h₁ e₁ x₁ H₁ V₁ => none_ok ?_) rfl
  exact is_none (wpAny_truthy_bool (C _ _ _ _ (kNone_ok V₁ h₁) e₁ x₁ H₁))
theorem isNot_none {M : Model} {A : Around} {E : Value → Shared → Prop} {s : Shared} {v : Value} {Q : Value → Shared → Prop} (h : Q (.bool (!(v == .none))) s) : wpAny M A (compareOp .IsNot v .none) Q E s := by
  show wpAny M A (do return .bool (!(← isSame v .none))) Q E s
  rw [isSame_none]; exact wpAny_bind (wpAny_pure (wpAny_pure h))
theorem SimT.isNotNone {a : M} {l : Expr} {k : Nat} {p pos : Pos} (ha : SimE X n sc a l) : SimT X n sc (notB (Mine.isNone a)) (.Compare l [.IsNot] [.Constant .none k p] pos) := by
  intro env L hE A hA σ k h E s W Q H hL C
  refine wpAny_isTrue_Compare1 (ha env L hE A hA σ _ h E s W _ H hL fun v σ₁ W₁ s₁ va h₁ e₁ x₁ H₁ V₁ => none_ok ?_) rfl
  exact isNot_none (wpAny_truthy_bool (C _ _ _ _ (kNot_ok (kNone_ok V₁ h₁)) e₁ x₁ H₁))
theorem SimL.nil : SimL X n sc nil [] := by
  intro pos env L hE A hA σ k h E s W Q H hL C
  exact spliced_nil (C _ _ _ _ _ h rfl rfl (.refl ..) H .nil)
end
theorem both_cons (m : Bool) (ms : List Bool) (b : Bool) (bs : List Bool) (k : List Bool → List Bool → Bool → Bool → Bool) :
    both (m :: ms) (b :: bs) k = both ms bs fun x y p q => br m (br b (k (true :: x) (false :: y) true q) (k (false :: x) (true :: y) p true)) (k (false :: x) (false :: y) p q) := rfl
theorem both_ok : ∀ {ms bs : List Bool} {k : List Bool → List Bool → Bool → Bool → Bool}, both ms bs k = true → ∃ x y p q, k x y p q = true ∧
    (∀ n : Nat, ms[n]? = some true → ∃ b, bs[n]? = some b ∧ (if b = true then x[n]? = some true ∧ p = true else y[n]? = some true ∧ q = true))
  | [], bs, k, h => ⟨_, _, _, _, h, fun n e => by simp at e⟩
  | m :: ms, [], k, h => (nomatch (show false = true from h))
  | m :: ms, b :: bs, k, h => by
    rw [both_cons] at h
    obtain ⟨x, y, p, q, h, ih⟩ := both_ok h
    cases m with
    | false =>
      refine ⟨_, _, _, _, h, fun n e => ?_⟩
      cases n with
      | zero => simp at e
      | succ n =>
        obtain ⟨b', e1, e2⟩ := ih n (by simpa using e)
        exact ⟨b', by simpa using e1, by simpa using e2⟩
    | true =>
      cases b with
      | true =>
        refine ⟨_, _, _, _, h, fun n e => ?_⟩
        cases n with
        | zero => exact ⟨true, by simp, by simp⟩
        | succ n =>
          obtain ⟨b', e1, e2⟩ := ih n (by simpa using e)
          refine ⟨b', by simpa using e1, ?_⟩
          cases b' <;> simp at e2 ⊢ <;> first | exact e2 | exact e2.1
      | false =>
        refine ⟨_, _, _, _, h, fun n e => ?_⟩
        cases n with
        | zero => exact ⟨false, by simp, by simp⟩
        | succ n =>
          obtain ⟨b', e1, e2⟩ := ih n (by simpa using e)
          refine ⟨b', by simpa using e1, ?_⟩
          cases b' <;> simp at e2 ⊢ <;> first | exact e2 | exact e2.1
structure SameSt (σ σ' : St) : Prop where
  hp : σ'.hp = σ.hp
  nx : σ'.nx = σ.nx
  lo : σ'.lo = σ.lo
theorem SameSt.refl (σ : St) : SameSt σ σ := ⟨rfl, rfl, rfl⟩
theorem SameSt.trans {a b c : St} (x : SameSt a b) (y : SameSt b c) : SameSt a c := ⟨y.hp.trans x.hp, y.nx.trans x.nx, y.lo.trans x.lo⟩
theorem HRel.mk' {X : Cx} {W : Wd} {σ σ' : St} {s : Shared} (H : HRel X W σ s) (e : SameSt σ σ') (hm : ∀ t l, σ'.ms.at t = some l → ∃ n : Nat, W.j[t]? = some n ∧ l[n]? = some true) : HRel X W σ' s :=
  ⟨H.base, e.nx ▸ H.nx, e.hp ▸ H.obj, H.inj, H.old, H.ex, hm, H.gens⟩
theorem setMk_rel {X : Cx} {W : Wd} {σ : St} {s : Shared} {t : Nat} {l : List Bool} {k : KS} (H : HRel X W σ s) (h : setMk σ t l k = true) {n : Nat} (hn : W.j[t]? = some n) (hl : l[n]? = some true) : ∃ σ', k σ' = true ∧ SameSt σ σ' ∧ HRel X W σ' s := by
  obtain ⟨ms, e, h⟩ := setMk_ok h
  refine ⟨_, h, ⟨rfl, rfl, rfl⟩, H.mk' ⟨rfl, rfl, rfl⟩ fun t' l' e' => ?_⟩
  have e' : ms.at t' = some l' := e'
  rw [e] at e'
  by_cases q : t' = t
  · subst q; rw [if_pos rfl] at e'; cases e'; exact ⟨n, hn, hl⟩
  · rw [if_neg q] at e'; exact H.mask t' l' e'
theorem splitOn_ok {X : Cx} {W : Wd} {σ : St} {s : Shared} {t : Nat} {bs : List Bool} {k : KB} (H : HRel X W σ s) (h : splitOn t bs σ k = true) {n : Nat} (hn : W.j[t]? = some n) {c : Bool} (hc : bs[n]? = some c) :
    ∃ σ', k c σ' = true ∧ SameSt σ σ' ∧ HRel X W σ' s := by
  obtain ⟨ms, em, h⟩ := MK.get_ok h
  obtain ⟨n', hn', hl⟩ := H.mask t ms em
  rw [hn] at hn'; cases hn'
  obtain ⟨x, y, p, q, h, hb⟩ := both_ok h
  obtain ⟨b, e1, e2⟩ := hb n hl
  rw [hc] at e1; cases e1
  cases p <;> cases q <;> cases c <;> simp at e2 <;> simp only [br_t, br_f] at h
  all_goals first
    | exact ⟨σ, h, .refl σ, H⟩
    | skip
  · obtain ⟨h1, h2⟩ := br_false h
    exact setMk_rel H h2 hn e2
  · obtain ⟨h1, h2⟩ := br_false h
    exact setMk_rel H h1 hn e2
theorem firstOn_ok : ∀ {ms : List Bool} {l : List Int} {k : Int → Bool} {d : Bool}, firstOn ms l k d = true → (∃ n : Nat, ms[n]? = some true) → ∃ x, k x = true
  | [], l, k, d, h, ⟨n, e⟩ => by simp at e
  | m :: ms, [], k, d, h, e => (nomatch (show false = true from h))
  | m :: ms, x :: r, k, d, h, ⟨n, e⟩ => by
    have h : br m (k x) (firstOn ms r k d) = true := h
    cases m with
    | true => exact ⟨x, h⟩
    | false =>
      cases n with
      | zero => simp at e
      | succ n => exact firstOn_ok (l := r) h ⟨n, by simpa using e⟩
theorem conN_ok {X : Cx} {W : Wd} {s : Shared} {t : Nat} {l : List Int} {n : Nat} {z : Int} (hn : W.j[t]? = some n) (hz : l[n]? = some z) : ∀ {f : Nat} {σ : St} {k : Int → St → Bool}, HRel X W σ s → conN t l f σ k = true →
    ∃ σ', k z σ' = true ∧ SameSt σ σ' ∧ HRel X W σ' s
  | 0, σ, k, H, h => (nomatch (show false = true from h))
  | f + 1, σ, k, H, h => by
    have h : σ.ms.get t (fun ms => firstOn ms l (fun x => both ms (mapB (eqb x) l) fun a b _ q => br q (br (setMk σ t a (k x)) (setMk σ t b fun σ => conN t l f σ k) false) (k x σ)) true) = true := h
    obtain ⟨ms, em, h⟩ := MK.get_ok h
    obtain ⟨n', hn', hl⟩ := H.mask t ms em
    rw [hn] at hn'; cases hn'
    obtain ⟨x, h⟩ := firstOn_ok h ⟨n, hl⟩
    obtain ⟨a, b, p, q, h, hb⟩ := both_ok h
    obtain ⟨c, e1, e2⟩ := hb n hl
    rw [mapB_eq, List.getElem?_map, hz] at e1
    have e1 : eqb x z = c := by simpa using e1
    cases c with
    | true =>
      have := eqb_iff.mp e1
      subst this
      simp at e2
      cases q with
      | true => exact setMk_rel H (br_false h).1 hn e2.1
      | false => exact ⟨σ, h, .refl σ, H⟩
    | false =>
      simp at e2
      rw [e2.2] at h
      obtain ⟨σ', h', e', H'⟩ := setMk_rel H (br_false h).2 hn e2.1
      obtain ⟨σ'', h'', e'', H''⟩ := conN_ok hn hz H' h'
      exact ⟨σ'', h'', e'.trans e'', H''⟩
theorem con_ok {X : Cx} {W : Wd} {σ : St} {s : Shared} {v : AV} {a : Value} {k : Int → St → Bool} (H : HRel X W σ s) (V : VR X W v a) (h : con v σ k = true) : ∃ x t σ', a = .int x t ∧ k x σ' = true ∧ SameSt σ σ' ∧ HRel X W σ' s := by
  cases v with
  | int i => obtain ⟨t, rfl⟩ := V; exact ⟨i, t, σ, rfl, h, .refl σ, H⟩
  | vec t l =>
    obtain ⟨n, i, tk, hn, hi, rfl⟩ := V
    have h : conN t l 300 σ k = true := h
    obtain ⟨σ', h, e, H'⟩ := conN_ok hn hi H h
    exact ⟨i, tk, σ', rfl, h, e, H'⟩
  | _ => exact (nomatch (show false = true from h))
theorem zip_get {α β γ : Type} {f : α → β → γ} {l : List α} {l' : List β} {n : Nat} {x : α} {y : β} (h : l[n]? = some x) (h' : l'[n]? = some y) : (List.zipWith f l l')[n]? = some (f x y) := by
  rw [List.getElem?_zipWith, h, h']
theorem mkVec_rel {X : Cx} {W : Wd} {t n : Nat} {l : List Int} {k : AV → Bool} (h : mkVec t l k = true) (hn : W.j[t]? = some n) {x : Int} (hx : l[n]? = some x) : ∃ z, k z = true ∧ ∀ tk, VR X W z (.int x tk) := by
  rcases mkVec_ok h with h | ⟨y, h, e⟩
  · exact ⟨_, h, fun tk => ⟨n, x, tk, hn, hx, rfl⟩⟩
  · refine ⟨_, h, fun tk => ?_⟩
    rw [← e x (List.mem_of_getElem? hx)]
    exact ⟨tk, rfl⟩
theorem iop_ok {X : Cx} {W : Wd} {f : Int → Int → Int} {a b : AV} {va vb : Value} {k : AV → Bool} (h : iop f a b k = true) (Va : VR X W a va) (Vb : VR X W b vb) :
    ∃ x y t u z, va = .int x t ∧ vb = .int y u ∧ k z = true ∧ ∀ tk, VR X W z (.int (f x y) tk) := by
  cases a <;> try exact (nomatch (show false = true from h))
  · rename_i x
    obtain ⟨t, rfl⟩ := Va
    cases b <;> try exact (nomatch (show false = true from h))
    · rename_i y
      obtain ⟨u, rfl⟩ := Vb
      exact ⟨x, y, t, u, _, rfl, rfl, forceI_ok (k := fun z => k (.int z)) h, fun tk => ⟨tk, rfl⟩⟩
    · rename_i t' l
      obtain ⟨n, y, u, hn, hy, rfl⟩ := Vb
      have h : mkVec t' (mapI (f x) l) k = true := h
      obtain ⟨z, h, Vz⟩ := mkVec_rel (X := X) h hn (x := f x y) (by rw [mapI_eq, List.getElem?_map, hy]; rfl)
      exact ⟨x, y, t, u, z, rfl, rfl, h, Vz⟩
  · rename_i t' l
    obtain ⟨n, x, t, hn, hx, rfl⟩ := Va
    cases b <;> try exact (nomatch (show false = true from h))
    · rename_i y
      obtain ⟨u, rfl⟩ := Vb
      have h : mkVec t' (mapI (fun x => f x y) l) k = true := h
      obtain ⟨z, h, Vz⟩ := mkVec_rel (X := X) h hn (x := f x y) (by rw [mapI_eq, List.getElem?_map, hx]; rfl)
      exact ⟨x, y, t, u, z, rfl, rfl, h, Vz⟩
    · rename_i t'' l'
      obtain ⟨n', y, u, hn', hy, rfl⟩ := Vb
      have h : br (Nat.beq t' t'') (mkVec t' (zipI f l l') k) false = true := h
      obtain ⟨h0, h1⟩ := br_false h
      have := Nat.eq_of_beq_eq_true h0
      subst this
      rw [hn] at hn'; cases hn'
      obtain ⟨z, h, Vz⟩ := mkVec_rel (X := X) h1 hn (x := f x y) (by rw [zipI_eq]; exact zip_get hx hy)
      exact ⟨x, y, t, u, z, rfl, rfl, h, Vz⟩
theorem irel_ok {X : Cx} {W : Wd} {f : Int → Int → Bool} {a b : AV} {va vb : Value} {σ : St} {s : Shared} {k : KB} (H : HRel X W σ s) (h : irel f a b σ k = true) (Va : VR X W a va) (Vb : VR X W b vb) :
    ∃ x y t u σ', va = .int x t ∧ vb = .int y u ∧ k (f x y) σ' = true ∧ SameSt σ σ' ∧ HRel X W σ' s := by
  cases a <;> try exact (nomatch (show false = true from h))
  · rename_i x
    obtain ⟨t, rfl⟩ := Va
    cases b <;> try exact (nomatch (show false = true from h))
    · rename_i y
      obtain ⟨u, rfl⟩ := Vb
      have h : br (f x y) (k true σ) (k false σ) = true := h
      refine ⟨x, y, t, u, σ, rfl, rfl, ?_, .refl σ, H⟩
      cases e : f x y <;> rw [e] at h <;> exact h
    · rename_i t' l
      obtain ⟨n, y, u, hn, hy, rfl⟩ := Vb
      have h : splitOn t' (mapB (f x) l) σ k = true := h
      obtain ⟨σ', h, e, H'⟩ := splitOn_ok H h hn (c := f x y) (by rw [mapB_eq, List.getElem?_map, hy]; rfl)
      exact ⟨x, y, t, u, σ', rfl, rfl, h, e, H'⟩
  · rename_i t' l
    obtain ⟨n, x, t, hn, hx, rfl⟩ := Va
    cases b <;> try exact (nomatch (show false = true from h))
    · rename_i y
      obtain ⟨u, rfl⟩ := Vb
      have h : splitOn t' (mapB (fun x => f x y) l) σ k = true := h
      obtain ⟨σ', h, e, H'⟩ := splitOn_ok H h hn (c := f x y) (by rw [mapB_eq, List.getElem?_map, hx]; rfl)
      exact ⟨x, y, t, u, σ', rfl, rfl, h, e, H'⟩
    · rename_i t'' l'
      obtain ⟨n', y, u, hn', hy, rfl⟩ := Vb
      have h : br (Nat.beq t' t'') (splitOn t' (zipB f l l') σ k) false = true := h
      obtain ⟨h0, h1⟩ := br_false h
      have := Nat.eq_of_beq_eq_true h0
      subst this
      rw [hn] at hn'; cases hn'
      obtain ⟨σ', h, e, H'⟩ := splitOn_ok H h1 hn (c := f x y) (by rw [zipB_eq]; exact zip_get hx hy)
      exact ⟨x, y, t, u, σ', rfl, rfl, h, e, H'⟩
section
variable {X : Cx} {n : Nat}
theorem Rel2.irel {f : Int → Int → Bool} {t : Value → Value → Sem Value} (hf : ∀ (A : Around) (E : Value → Shared → Prop) (s : Shared) (Q : Value → Shared → Prop) (x y : Int) (u v : Tok), Q (.bool (f x y)) s → wpAny (model X.prog X.w) A (t (.int x u) (.int y v)) Q E s) : Rel2 X n (Mine.irel f) t := by
  intro A hA a b σ k h E s W Q va vb H Va Vb C
  obtain ⟨x, y, t, u, σ', rfl, rfl, h, e, H'⟩ := irel_ok H h Va Vb
  exact hf _ _ _ _ _ _ _ _ ⟨_, rfl, C _ _ _ _ h e.lo (.refl ..) H'⟩
theorem op_lt : Rel2 X n (Mine.irel ltb) (compareOp .Lt) := Rel2.irel fun A E s Q x y u v q => P.lt_int (by rw [ltb_eq] at q; exact q)
theorem op_le : Rel2 X n (Mine.irel leb) (compareOp .LtE) := Rel2.irel fun A E s Q x y u v q => P.le_int (by rw [leb_eq] at q; exact q)
theorem op_gt : Rel2 X n (Mine.irel gtb) (compareOp .Gt) := Rel2.irel fun A E s Q x y u v q => P.gt_int (by rw [gtb_eq] at q; exact q)
theorem op_ge : Rel2 X n (Mine.irel geb) (compareOp .GtE) := Rel2.irel fun A E s Q x y u v q => P.ge_int (by rw [geb_eq] at q; exact q)
theorem op_sub : Op2 X n subV (binaryOp .Sub) := by
  intro A hA a b σ k h E s W Q va vb H Va Vb C
  obtain ⟨x, y, t, u, z, rfl, rfl, h, Vz⟩ := iop_ok (k := kV k σ) h Va Vb
  exact P.sub_int (C _ _ _ _ _ h rfl (Step.toks _) (H.toks _) (Vz _))
theorem posOf_ok {b : AV} {f : Int → Bool} (h : posOf b f = true) : ∃ m : Nat, b = .int (.ofNat (m + 1)) ∧ m ≤ 1000000000 ∧ f (.ofNat (m + 1)) = true := by
  cases b <;> try exact (nomatch (show false = true from h))
  rename_i y
  cases y with
  | negSucc n => exact (nomatch (show false = true from h))
  | ofNat n =>
    cases n with
    | zero => exact (nomatch (show false = true from h))
    | succ m =>
      obtain ⟨h0, h⟩ := br_false (b := Nat.ble m 1000000000) (x := f (.ofNat (Nat.succ m))) h
      exact ⟨m, rfl, Nat.le_of_ble_eq_true h0, h⟩
theorem posM_ok {b : AV} {f : Int → Bool} (h : posM b f = true) : ∃ m : Nat, b = .int (.ofNat (m + 1)) ∧ f (.ofNat (m + 1)) = true := by
  cases b <;> try exact (nomatch (show false = true from h))
  rename_i y
  cases y with
  | negSucc n => exact (nomatch (show false = true from h))
  | ofNat n =>
    cases n with
    | zero => exact (nomatch (show false = true from h))
    | succ m => exact ⟨m, rfl, h⟩
theorem op_mod : Op2 X n modV (binaryOp .Mod) := by
  intro A hA a b σ k h E s W Q va vb H Va Vb C
  obtain ⟨m, rfl, h⟩ := posM_ok h
  obtain ⟨x, y, t, u, z, rfl, rfl, h, Vz⟩ := iop_ok (k := kV k σ) h Va Vb
  obtain ⟨_, e⟩ := Vb
  injection e with e1 e2
  subst e1
  refine mod_int' (by exact Int.natCast_ne_zero.mpr (Nat.succ_ne_zero m)) (C _ _ _ _ _ h rfl (Step.toks _) (H.toks _) ?_)
  rw [← modI_eq]
  exact Vz _
theorem op_fdv : Op2 X n fdvV (binaryOp .FloorDiv) := by
  intro A hA a b σ k h E s W Q va vb H Va Vb C
  obtain ⟨m, rfl, hm, h⟩ := posOf_ok h
  obtain ⟨x, y, t, u, z, rfl, rfl, h, Vz⟩ := iop_ok (k := kV k σ) h Va Vb
  obtain ⟨_, e⟩ := Vb
  injection e with e1 e2
  subst e1
  refine floordiv_int (by exact Int.natCast_ne_zero.mpr (Nat.succ_ne_zero m)) (C _ _ _ _ _ h rfl (Step.toks _) (H.toks _) (Vz _)) (.inl (PyProof.noPylong_small ?_))
  show m + 1 < _
  omega
end
theorem fresh_none (h : Heap) : h.get? h.objs.size = none := by
  cases e : h.get? h.objs.size with
  | none => rfl
  | some o => exact absurd (Heap.lt_size e) (Nat.lt_irrefl _)
theorem VRs.length {X : Cx} {W : Wd} {xs : List AV} {vs : List Value} (h : VRs X W xs vs) : vs.length = xs.length := (All2.length h).symm
theorem cap_ok {α : Type} {l : List α} {b : Bool} (h : cap l b = true) : l.length ≤ 10000 ∧ b = true := by
  have := len_ok (l := l) (n := 0) (k := fun n => br (Nat.ble n 10000) b false) h
  rw [Nat.zero_add] at this
  obtain ⟨h1, h2⟩ := br_false this
  exact ⟨Nat.le_of_ble_eq_true h1, h2⟩
theorem sizeLine_ge : 20000 ≤ sizeLine := by unfold sizeLine; decide
section
variable {X : Cx}
theorem push_rel {W : Wd} {σ : St} {s : Shared} {o : AO} {k : K} {ob : Obj} {Q : Value → Shared → Prop} (H : HRel X W σ s) (h : new σ o k = true) (hf : ob.isFreed = false)
    (r : RO X (W.add (s.heap.objs.size, s.heap.objs.size)) (s.heap.push ob) (s.heap.objs.size, s.heap.objs.size) o) (C : Cont X σ s W k Q) (t : Nat) : Q (.ref s.heap.objs.size) { s with heap := s.heap.push ob, toks := t } := by
  obtain ⟨hp, e, h⟩ := new_ok h
  have x1 : (s.heap.push ob).get? s.heap.objs.size = some ob := Heap.get?_push_size _ hf
  obtain ⟨H', S'⟩ := H.new (h' := s.heap.push ob) (t := t) (p := (s.heap.objs.size, s.heap.objs.size)) (o := o) (hp := hp) (fun b o e => Heap.get?_push_of_some _ e) (fresh_none _) (fresh_none _) (by rw [x1]; rfl) (by rw [x1]; rfl) r e
  refine C _ _ _ _ _ h rfl S' H' ⟨(s.heap.objs.size, s.heap.objs.size), ?_, rfl⟩
  show (W.ρ ++ [_])[σ.nx]? = _
  rw [H.nx, List.getElem?_append_right (Nat.le_refl _), Nat.sub_self]; rfl
theorem new_list {W : Wd} {σ : St} {s : Shared} {xs : List AV} {vs : List Value} {k : K} {Q : Value → Shared → Prop} (H : HRel X W σ s) (h : new σ (.list xs) k = true) (hl : xs.length ≤ 10000) (V : VRs X W xs vs) (C : Cont X σ s W k Q) (t : Nat) :
    Q (.ref s.heap.objs.size) { s with heap := s.heap.push { cls := .type "list", data := .seq vs.toArray }, toks := t } :=
  push_rel H h rfl ⟨hl, vs, 0, Heap.get?_push_size _ rfl, V.le (Wd.add_le ..)⟩ C t
theorem new_tup {W : Wd} {σ : St} {s : Shared} {xs : List AV} {vs : List Value} {k : K} {Q : Value → Shared → Prop} (H : HRel X W σ s) (h : new σ (.tup xs) k = true) (hl : xs.length ≤ 10000) (V : VRs X W xs vs) (C : Cont X σ s W k Q) (t : Nat) :
    Q (.ref s.heap.objs.size) { s with heap := s.heap.push { cls := .type "tuple", data := .seq vs.toArray }, toks := t } :=
  push_rel H h rfl ⟨hl, vs, 0, Heap.get?_push_size _ rfl, V.le (Wd.add_le ..)⟩ C t
theorem own_obj {W : Wd} {σ : St} {s : Shared} {i : Nat} {a : Value} {f : AO → Bool} (H : HRel X W σ s) (V : VR X W (.own i) a) (h : σ.hp.get i f = true) : ∃ p o, W.ρ[i]? = some p ∧ a = .ref p.1 ∧ σ.hp.at i = some o ∧ RO X W s.heap p o ∧ f o = true := by
  obtain ⟨p, hp, rfl⟩ := V
  obtain ⟨o, ho, hf⟩ := T.get_ok h
  obtain ⟨o', ho', r⟩ := H.obj i p hp
  rw [ho] at ho'; cases ho'
  exact ⟨p, o, hp, rfl, ho, r, hf⟩
end
section
variable {X : Cx} {n : Nat}
theorem SimL.cons {sc : List (Str × NameKind)} {m : M} {ms : ML} {e : Expr} {es : List Expr} (he : ∀ env, starEach (e :: es) env = (false, eval e env) :: starEach es env) (hm : SimE X n sc m e) (hs : SimL X n sc ms es) : SimL X n sc (cons m ms) (e :: es) := by
  intro pos env L hE A hA σ k h E s W Q H hL C
  rw [he]
  show wpAny (model X.prog X.w) A (spliced ((false, eval e env) :: backTo pos (starEach es env))) Q E s
  refine spliced_cons (hm env L hE A hA σ _ h E s W _ H hL fun v σ₁ W₁ s₁ va h₁ e₁ x₁ H₁ V₁ => ?_)
  refine hs pos env L hE A hA σ₁ _ h₁ E s₁ W₁ _ H₁ (e₁ ▸ hL.stepE x₁) fun vs σ₂ W₂ s₂ as h₂ l₂ e₂ x₂ H₂ V₂ => ?_
  exact C _ _ _ _ _ h₂ (by simp [l₂]) (e₂.trans e₁) (x₁.trans x₂) H₂ (.cons (V₁.le x₂.le) V₂)
theorem SimE.list {sc : List (Str × NameKind)} {ms : ML} {es : List Expr} {pos : Pos} (hs : SimL X n sc ms es) : SimE X n sc (mkList ms) (.List es pos) := by
  intro env L hE A hA σ k h E s W Q H hL C
  refine wpAny_List (hs pos env L hE A hA σ _ h E s W _ H hL fun vs σ₁ W₁ s₁ as h₁ _ e₁ x₁ H₁ V₁ => ?_)
  obtain ⟨h0, h₁⟩ := cap_ok h₁
  exact ⟨by have := sizeLine_ge; rw [V₁.length]; omega, new_list H₁ h₁ h0 V₁ (C.step e₁ x₁) _⟩
theorem SimE.tup {sc : List (Str × NameKind)} {ms : ML} {es : List Expr} {k : Nat} {pos : Pos} (hs : SimL X n sc ms es) : SimE X n sc (mkTup ms) (.Tuple es k pos) := by
  intro env L hE A hA σ k h E s W Q H hL C
  refine wpAny_Tuple (hs pos env L hE A hA σ _ h E s W _ H hL fun vs σ₁ W₁ s₁ as h₁ _ e₁ x₁ H₁ V₁ => ?_)
  obtain ⟨h0, h₁⟩ := cap_ok h₁
  exact ⟨by have := sizeLine_ge; rw [V₁.length]; omega, new_tup H₁ h₁ h0 V₁ (C.step e₁ x₁) _⟩
theorem SimE.bytes {sc : List (Str × NameKind)} {x : List UInt8} {l : List Nat} {k : Nat} {pos : Pos} (hx : x = l.map UInt8.ofNat) (hl : l.length ≤ 10000 ∧ ∀ y ∈ l, y < 256) : SimE X n sc (cst (.bytes l)) (.Constant (.bytes x) k pos) := by
  intro env L hE A hA σ k h E s W Q H hL C
  exact Constant_bytes (C _ _ _ _ _ h rfl (Step.toks _) (H.toks _) ⟨hl, _, by rw [hx]⟩)
theorem onCons_ok {l : List AV} {b : Bool} (h : onCons l b = true) : 0 < l.length ∧ b = true := by
  cases l with
  | nil => exact (nomatch (show false = true from h))
  | cons x r => exact ⟨Nat.succ_pos _, h⟩
theorem append_toArray (vs ws : List Value) : vs.toArray ++ ws.toArray = (vs ++ ws).toArray := by simp
theorem op_addRef (A : Around) {o p : AO} {a b : Addr × Addr} {σ : St} {k : K} {E : Value → Shared → Prop} {s : Shared} {W : Wd} {Q : Value → Shared → Prop} (H : HRel X W σ s) (ro : RO X W s.heap a o) (rp : RO X W s.heap b p) (h : addObj o p σ k = true) (C : Cont X σ s W k Q) :
    wpAny (model X.prog X.w) A (binaryOp .Add (.ref a.1) (.ref b.1)) Q E s := by
  have z := sizeLine_ge
  cases o <;> try exact (nomatch (show false = true from h))
  · rename_i xs
    obtain ⟨ys, rfl, h⟩ := onList_ok h
    obtain ⟨h0, h⟩ := cap_ok (app_ok h)
    obtain ⟨l1, vs, n1, g1, V1⟩ := ro
    obtain ⟨l2, ws, n2, g2, V2⟩ := rp
    refine P.add_list g1 g2 ?_ (by rw [List.size_toArray, List.size_toArray, V1.length, V2.length]; omega)
    rw [append_toArray]
    exact new_list H h h0 (V1.append V2) C _
  · rename_i xs
    obtain ⟨ys, rfl, h⟩ := onTup_ok h
    obtain ⟨p1, h⟩ := onCons_ok h
    obtain ⟨p2, h⟩ := onCons_ok h
    obtain ⟨h0, h⟩ := cap_ok (app_ok h)
    obtain ⟨l1, vs, n1, g1, V1⟩ := ro
    obtain ⟨l2, ws, n2, g2, V2⟩ := rp
    have q1 := V1.length
    have q2 := V2.length
    refine concat_meets ⟨_, g1, rfl⟩ ⟨_, g2, rfl⟩ noFill_tuple_add seq_tuple_add PySem.F.slot_tuple_add PySem.F.entry_tuple_add (PySem.F.args_tuple_add_2 _ _)
      (AutoSeq1.tuple___add___tuple_tuple_2 a.1 vs.toArray n1 b.1 ws.toArray n2 (by cases vs with | nil => simp at q1; omega | cons _ _ => simp) (by cases ws with | nil => simp at q2; omega | cons _ _ => simp)
        (by rw [List.size_toArray, List.size_toArray, q1, q2]; omega)) ⟨g1, g2, ?_⟩
    rw [append_toArray]
    exact new_tup H h h0 (V1.append V2) C _
theorem bytes_append {x y : List Nat} : (x.map UInt8.ofNat).toArray ++ (y.map UInt8.ofNat).toArray = ((x ++ y).map UInt8.ofNat).toArray := by simp
end
theorem tl_buffer : typeLookup (.type "bytes") (Str.ofString "__buffer__") = pure (some (.builtin "bytes.__buffer__")) := by rw [typeLookup_type, builtinLookup_eq_fast]; kernel_rfl
theorem tl_release : typeLookup (.type "bytes") (Str.ofString "__release_buffer__") = pure none := by rw [typeLookup_type, builtinLookup_eq_fast]; kernel_rfl
theorem ends_buffer : (!"bytes.__buffer__".endsWith ("." ++ "__buffer__")) = false := by decide +kernel
theorem drop_buffer : "bytes.__buffer__".dropRight ("__buffer__".length + 1) = "bytes" := by decide +kernel
section
variable {M : Model} {A : Around} {E : Value → Shared → Prop} {s : Shared}
theorem bytes_own {b : Array UInt8} {t : Tok} {Q : Bool → Shared → Prop} (q : Q true s) : wpAny M A (Builtin.Bytes.slotIsOwn (.bytes b t) "__buffer__") Q E s := by
  unfold Builtin.Bytes.slotIsOwn
  refine wpAny_bind (wpAny_specialOf (typeIs_bytes s b t) tl_buffer ?_)
  show wpAny M A (if (!"bytes.__buffer__".endsWith ("." ++ "__buffer__")) = true then _ else _) Q E s
  rw [ends_buffer, drop_buffer]
  exact wpAny_isInstance (typeIs_bytes s b t) PySem.F.sub_bytes_bytes q
theorem bytes_buffer {id : String} {b : Array UInt8} {t : Tok} {f : Bool} {Q : Option (Array UInt8) → Shared → Prop} (q : Q (some b) s) : wpAny M A (Builtin.Bytes.buffer? id (.bytes b t) f) Q E s := by
  unfold Builtin.Bytes.buffer?
  refine wpAny_bind (wpAny_specialOf (typeIs_bytes s b t) tl_buffer ?_)
  refine wpAny_bind (bytes_own ?_)
  refine wpAny_bind (wpAny_specialOf (typeIs_bytes s b t) tl_buffer ?_)
  unfold Builtin.Bytes.ownRelease Builtin.Bytes.slotIsOwn
  refine wpAny_bind (wpAny_bind (wpAny_bind (wpAny_specialOf (typeIs_bytes s b t) tl_release ?_)))
  exact wpAny_pure (wpAny_pure (wpAny_bind (wpAny_bind (wpAny_pure (wpAny_pure (wpAny_pure q))))))
theorem bytes_bufferQ {id : String} {b : Array UInt8} {t : Tok} {Q : Option (Array UInt8) → Shared → Prop} (q : Q (some b) s) : wpAny M A (Builtin.Bytes.bufferQuiet? id (.bytes b t)) Q E s := by
  unfold Builtin.Bytes.bufferQuiet?
  refine wpAny_bind (wpAny_attempt (bytes_buffer ?_))
  exact wpAny_pure q
end
theorem noR_bytes_add : typeLookup (.type "bytes") (dunderR "add") = pure none := by rw [typeLookup_type, builtinLookup_eq_fast]; kernel_rfl
theorem noFill_bytes_add : fillsNumberSlot (.type "bytes") "add" = pure false := PySem.fillsNumberSlot_seq (id := "bytes.__add__") (r := none) FB.slot_bytes_add.lookup (by decide +kernel) noR_bytes_add rfl
theorem seq_bytes_add : seqSlot? (.type "bytes") "__add__" = pure (some (.builtin "bytes.__add__")) := PySem.seqSlot_of FB.slot_bytes_add.lookup (by decide +kernel)
theorem bytes_add_meets (a b : Array UInt8) (t u : Tok) (hz : a.size + b.size ≤ sizeLine) : Meets (Builtin.«bytes.__add__» ⟨[.bytes a t, .bytes b u], []⟩) (fun _ R s => ∀ tk v, R (.ok (.ret (.bytes (a ++ b) v))) { s with toks := tk }) := by
  refine Meets.of_wp fun prog w A R s h => ?_
  unfold Builtin.«bytes.__add__»
  refine wpAny_bind (wpAny_pure ?_)
  refine wpAny_bind (bytes_buffer ?_)
  refine wpAny_bind (bytes_bufferQ ?_)
  dsimp only
  have e : ∀ x : Array UInt8, x.isEmpty = true → x = #[] := fun x hx => by simpa using hx
  cases ha : a.isEmpty with
  | true =>
    rw [if_pos rfl]
    refine wpAny_bind (wpAny_typeOf (typeIs_bytes s b u) ?_)
    simp only [beq_self_eq_true, if_true]
    have := h s.toks u
    rw [e _ ha, Array.empty_append] at this
    exact wpAny_bind (wpAny_rule (wpAny_pure ⟨_, rfl, this⟩))
  | false =>
    rw [if_neg (by simp)]
    cases hb : b.isEmpty with
    | true =>
      rw [if_pos rfl]
      refine wpAny_bind (wpAny_typeOf (typeIs_bytes s a t) ?_)
      simp only [beq_self_eq_true, if_true]
      have := h s.toks t
      rw [e _ hb, Array.append_empty] at this
      exact wpAny_bind (wpAny_rule (wpAny_pure ⟨_, rfl, this⟩))
    | false =>
      rw [if_neg (by simp)]
      have hz' : ¬ (Builtin.Bytes.tooLong (a.size + b.size) = true) := by unfold Builtin.Bytes.tooLong; simp; omega
      rw [if_neg hz']
      exact wpAny_bind (wpAny_mkBytes (wpAny_pure ⟨_, rfl, h _ _⟩) (by rw [Array.size_append]; omega))
section
variable {X : Cx} {n : Nat}
theorem bytes_size {l : List Nat} : (l.map UInt8.ofNat).toArray.size = l.length := by simp
theorem VR.bytes' {W : Wd} {l : List Nat} {t : Tok} (h : l.length ≤ 10000 ∧ ∀ x ∈ l, x < 256) : VR X W (.bytes l) (.bytes (l.map UInt8.ofNat).toArray t) := ⟨h, _, rfl⟩
theorem op_add : Op2 X n addV (binaryOp .Add) := by
  intro A hA a b σ k h E s W Q va vb H Va Vb C
  have z := sizeLine_ge
  cases a <;> try exact (nomatch (show false = true from h))
  · rename_i x
    obtain ⟨x, y, t, u, z, rfl, rfl, h, Vz⟩ := iop_ok (f := addI) (a := .int x) (k := kV k σ) h Va Vb
    refine P.add_int (C _ _ _ _ _ h rfl (Step.toks _) (H.toks _) ?_)
    rw [← addI_eq]; exact Vz _
  · rename_i t l
    obtain ⟨x, y, t, u, z, rfl, rfl, h, Vz⟩ := iop_ok (f := addI) (a := .vec t l) (k := kV k σ) h Va Vb
    refine P.add_int (C _ _ _ _ _ h rfl (Step.toks _) (H.toks _) ?_)
    rw [← addI_eq]; exact Vz _
  · rename_i x
    obtain ⟨y, rfl, h⟩ := onBytes_ok h
    obtain ⟨h0, h⟩ := cap_ok (app_ok h)
    obtain ⟨⟨l1, q1⟩, t, rfl⟩ := Va
    obtain ⟨⟨l2, q2⟩, u, rfl⟩ := Vb
    refine concat_meets (typeIs_bytes _ _ _) (typeIs_bytes _ _ _) noFill_bytes_add seq_bytes_add FB.slot_bytes_add FB.entry_bytes_add (FB.args_bytes_add_2 _ _) (bytes_add_meets _ _ t u (by rw [bytes_size, bytes_size]; omega)) fun tk v => ?_
    rw [bytes_append]
    exact C _ _ _ _ _ h rfl (Step.toks _) (H.toks _) (VR.bytes' ⟨h0, fun x hx => (List.mem_append.mp hx).elim (q1 x) (q2 x)⟩)
  · rename_i i
    obtain ⟨j, rfl, h⟩ := onOwn_ok h
    obtain ⟨p, o, hp, rfl, ho, ro, h⟩ := own_obj H Va h
    obtain ⟨p', o', hp', rfl, ho', ro', h⟩ := own_obj H Vb h
    exact op_addRef A H ro ro' h C
theorem smallI_ok {x : Int} (h : smallI x = true) : x.natAbs ≤ 1000000000 := by
  cases x with
  | ofNat n => exact Nat.le_of_ble_eq_true h
  | negSucc n => have := Nat.le_of_ble_eq_true (show Nat.ble n 999999999 = true from h); show n + 1 ≤ _; omega
theorem small_bits {x : Int} (h : x.natAbs ≤ 1000000000) : Builtin.Int.intBits x ≤ 64 := by
  unfold Builtin.Int.intBits
  split
  · omega
  · rename_i h0
    have : x.natAbs ≠ 0 := by intro q; exact h0 (by simpa using Int.natAbs_eq_zero.mp q)
    have := (Nat.log2_lt (k := 30) this).mpr (by omega)
    omega
theorem smallM_ok {x : Int} (h : smallM x = true) : x.natAbs ≤ 2200000000 := by
  cases x with
  | ofNat n => exact Nat.le_of_ble_eq_true h
  | negSucc n => have := Nat.le_of_ble_eq_true (show Nat.ble n 2199999999 = true from h); show n + 1 ≤ _; omega
theorem medium_bits {x : Int} (h : x.natAbs ≤ 2200000000) : Builtin.Int.intBits x ≤ 64 := by
  unfold Builtin.Int.intBits
  split
  · omega
  · rename_i h0
    have : x.natAbs ≠ 0 := by intro q; exact h0 (by simpa using Int.natAbs_eq_zero.mp q)
    have := (Nat.log2_lt (k := 32) this).mpr (by omega)
    omega
theorem rep_fold (ys : List Value) : ∀ (n : Nat) (acc : Array Value), (List.replicate n ys.toArray).foldl (fun x1 x2 => x1 ++ x2) acc = acc ++ ((List.replicate n ys).flatten).toArray
  | 0, acc => by simp
  | n + 1, acc => by
    rw [List.replicate_succ, List.foldl_cons, rep_fold ys n, List.replicate_succ, List.flatten_cons]
    simp
theorem rep_rel {W : Wd} {xs : List AV} {vs : List Value} (h : VRs X W xs vs) : ∀ n : Nat, VRs X W (List.replicate n xs).flatten (List.replicate n vs).flatten
  | 0 => .nil
  | n + 1 => by rw [List.replicate_succ, List.replicate_succ, List.flatten_cons, List.flatten_cons]; exact h.append (rep_rel h n)
theorem mulMeets (l : Addr) (items : Array Value) (n : Nat) (x : Int) (u : Tok) (h0 : 0 ≤ x) (h1 : x ≤ 100) (hz : items.size ≤ 10000) :
    Meets (Builtin.«list.__mul__» ⟨[.ref l, .int x u], []⟩) (fun _ R s => s.heap.get? l = some { cls := .type "list", dict := none, data := .seq items n, slots := #[] } ∧ R (.ok (.ret (Value.ref s.heap.objs.size))) { s with heap := s.heap.push { cls := Value.type "list", data := Data.seq (List.foldl (fun x1 x2 => x1 ++ x2) #[] (List.replicate (if items.isEmpty = true then 0 else x.toNat) items)) }, toks := s.toks }) := by
  have q : items.size * x.toNat ≤ 10000 * 100 := Nat.mul_le_mul hz (by omega)
  have z2 : 1000000 ≤ sizeLine := by unfold sizeLine; decide
  refine AutoListH.list___mul___list_int_3 l items n x u ?_ ?_ ?_
  · simp [Builtin.List.listFitsIndex]; omega
  · omega
  · simp only [Builtin.List.listTooLong, decide_eq_true_eq]; omega
theorem op_mul : Op2 X n mulV (binaryOp .Mult) := by
  intro A hA a b σ k h E s W Q va vb H Va Vb C
  have z := sizeLine_ge
  cases a <;> try exact (nomatch (show false = true from h))
  · rename_i x
    have h : br (smallM x) (iopI Int.mul x b (kV k σ)) (onSmall b fun y => iopI Int.mul x (.int y) (kV k σ)) = true := h
    rw [br_iff] at h
    rcases h with ⟨h0, h⟩ | ⟨_, h⟩
    · obtain ⟨x', y, t, u, z, e1, rfl, h, Vz⟩ := iop_ok (f := Int.mul) (a := .int x) (k := kV k σ) h Va Vb
      obtain ⟨t', rfl⟩ := Va
      cases e1
      exact P.mul_int (C _ _ _ _ _ h rfl (Step.toks _) (H.toks _) (Vz _)) (IntMulOk.of_left (medium_bits (smallM_ok h0)))
    · obtain ⟨y, rfl, h1⟩ : ∃ y, b = .int y ∧ br (smallI y) (iopI Int.mul x (.int y) (kV k σ)) false = true := by
        cases b <;> first | exact (nomatch (show false = true from h)) | exact ⟨_, rfl, h⟩
      obtain ⟨h0, h2⟩ := br_false h1
      obtain ⟨x', y', t, u, z, e1, e2, h3, Vz⟩ := iop_ok (f := Int.mul) (a := .int x) (b := .int y) (k := kV k σ) h2 Va Vb
      subst e1 e2
      obtain ⟨t', q1⟩ := Va
      obtain ⟨u', q2⟩ := Vb
      injection q1 with q1 _
      injection q2 with q2 _
      subst q1 q2
      exact P.mul_int (C _ _ _ _ _ h3 rfl (Step.toks _) (H.toks _) (Vz _)) (IntMulOk.of_right (small_bits (smallI_ok h0)))
  · rename_i t l
    obtain ⟨y, rfl, hy, h⟩ : ∃ y, b = .int y ∧ smallI y = true ∧ iopV Int.mul t l (.int y) (kV k σ) = true := by
      cases b <;> try exact (nomatch (show false = true from h))
      rename_i y
      obtain ⟨h0, h⟩ := br_false (b := smallI y) (x := iopV Int.mul t l (.int y) (kV k σ)) h
      exact ⟨y, rfl, h0, h⟩
    obtain ⟨x, y', t, u, z, rfl, e1, h, Vz⟩ := iop_ok (f := Int.mul) (a := .vec t l) (b := .int y) (k := kV k σ) h Va Vb
    obtain ⟨t', rfl⟩ := Vb
    cases e1
    exact P.mul_int (C _ _ _ _ _ h rfl (Step.toks _) (H.toks _) (Vz _)) (IntMulOk.of_right (small_bits (smallI_ok hy)))
  · rename_i i
    have h : con b σ (fun n σ => natOf n fun n => σ.hp.get i fun o => onList o fun xs => br (Nat.ble n 100) (rep n xs fun zs => cap zs (new σ (.list zs) k)) false) = true := h
    obtain ⟨x, t, σ₁, rfl, h1, e₁, H₁⟩ := con_ok H Vb h
    obtain ⟨m, rfl, h2⟩ := natOf_ok h1
    obtain ⟨p, o, hp, rfl, ho, ro, h3⟩ := own_obj H₁ Va h2
    obtain ⟨xs, rfl, h4⟩ := onList_ok h3
    obtain ⟨hm, h5⟩ := br_false h4
    obtain ⟨h0, h⟩ := cap_ok (rep_ok h5)
    have hm := Nat.le_of_ble_eq_true hm
    obtain ⟨l1, vs, n1, g1, V1⟩ := ro
    have q := V1.length
    have hz' : vs.toArray.size ≤ 10000 := by rw [List.size_toArray, q]; exact l1
    have hm' : (m : Int) ≤ 100 := by omega
    have hm0 : (0 : Int) ≤ (m : Int) := by omega
    have tm : (m : Int).toNat = m := Int.toNat_natCast m
    generalize (m : Int) = y at hm' hm0 tm ⊢
    have MM := mulMeets p.1 vs.toArray n1 y t hm0 hm' hz'
    refine wpAny_binaryOp_repeat_ref (T := "list") (U := "int") (by decide) ⟨_, g1, rfl⟩ (fun s' => typeIs_int s' _ t) noFill_list_mul PySem.F.fills_int_mul PySem.F.slot_int_rmul repeat_list PySem.F.slot_int_index.lookup
      (call_meets PySem.F.slot_int_rmul (typeIs_int s _ t) PySem.F.entry_int_rmul (PySem.F.args_int_rmul_2 _ _) (int___rmul___int_list _ t p.1 vs.toArray n1)
        ⟨g1, rfl, ⟨_, g1, rfl⟩, call_meets PySem.F.slot_list_mul ⟨_, g1, rfl⟩ PySem.F.entry_list_mul (PySem.F.args_list_mul_2 _ _)
          MM ⟨g1, ?_⟩⟩)
    have e : (if vs.toArray.isEmpty = true then 0 else y.toNat) = if vs = [] then 0 else m := by rw [tm]; cases vs <;> simp
    rw [e]
    have e2 : (List.replicate (if vs = [] then 0 else m) vs).flatten = (List.replicate m vs).flatten := by
      split
      · rename_i h; subst h; simp
      · rfl
    rw [rep_fold, e2, Array.empty_append]
    exact new_list H₁ h h0 (rep_rel V1 m) (C.step e₁.lo (.refl ..)) _
theorem op_pow : Op2 X n powV (binaryOp .Pow) := by
  intro A hA a b σ k h E s W Q va vb H Va Vb C
  have h : con a σ (fun x σ => natOf x fun m => con b σ fun y σ => natOf y fun n => br (Nat.ble m 1000000000) (br (Nat.ble n 64) (forceN (Nat.pow m n) fun z => k (.int (.ofNat z)) σ) false) false) = true := h
  obtain ⟨x, t, σ₁, rfl, h1, e₁, H₁⟩ := con_ok H Va h
  obtain ⟨m, rfl, h2⟩ := natOf_ok h1
  obtain ⟨y, u, σ₂, rfl, h3, e₂, H₂⟩ := con_ok H₁ Vb h2
  obtain ⟨j, rfl, h4⟩ := natOf_ok h3
  obtain ⟨hm, h5⟩ := br_false h4
  obtain ⟨hj, h⟩ := br_false h5
  have hm := Nat.le_of_ble_eq_true hm
  have hj := Nat.le_of_ble_eq_true hj
  have h := forceN_ok h
  have hb := small_bits (x := (m : Int)) hm
  refine pow_int (by omega) ?_ (C _ _ _ _ _ h (e₂.lo.trans e₁.lo) (Step.toks _) (H₂.toks _) ⟨s.toks, by rw [Int.toNat_natCast]; exact congrArg (Value.int · s.toks) (Int.natCast_pow m j).symm⟩)
  have : (Builtin.Int.intBits (m : Int) : Int) * (j : Int) ≤ 64 * 64 := Int.mul_le_mul (by omega) (by omega) (by omega) (by omega)
  omega
end
end Mine
end
section
open PySem PySem.W PySem.Calls PyProof.Rows PySem.SeqAt
namespace Mine
theorem bitAnd_nat (m n : Nat) : Builtin.bitAnd (m : Int) (n : Int) = ((m &&& n : Nat) : Int) := by
  unfold Builtin.bitAnd
  rw [decide_eq_true (Int.natCast_nonneg m), decide_eq_true (Int.natCast_nonneg n)]
  simp
theorem bitOr_nat (m n : Nat) : Builtin.bitOr (m : Int) (n : Int) = ((m ||| n : Nat) : Int) := by
  unfold Builtin.bitOr Builtin.bitAnd Builtin.bitNot
  have h : ∀ k : Nat, decide (0 ≤ -(k : Int) - 1) = false := fun k => decide_eq_false (by omega)
  have h2 : ∀ k : Nat, -(-(k : Int) - 1) - 1 = k := fun k => by omega
  simp only [h, h2, Int.toNat_natCast]
theorem shr_nat (m n : Nat) : (m : Int).fdiv (2 ^ n) = ((m >>> n : Nat) : Int) := by
  rw [Nat.shiftRight_eq_div_pow]
  have : ((2 : Int) ^ n) = ((2 ^ n : Nat) : Int) := by simp
  rw [this]
  rw [Int.fdiv_eq_ediv_of_nonneg _ (Int.natCast_nonneg _)]
  exact (Int.natCast_ediv m (2 ^ n)).symm
section
variable {X : Cx} {n : Nat}
theorem nop_ok {f : Nat → Nat → Nat} {t : Value → Value → Sem Value} (hf : ∀ (A : Around) (E : Value → Shared → Prop) (s : Shared) (Q : Value → Shared → Prop) (x y : Nat) (u v : Tok), Q (.int (f x y : Nat) s.toks) { s with toks := s.toks + 1 } → wpAny (model X.prog X.w) A (t (.int x u) (.int y v)) Q E s) : Op2 X n (nop f) t := by
  intro A hA a b σ k h E s W Q va vb H Va Vb C
  have h : con a σ (fun x σ => natOf x fun m => con b σ fun y σ => natOf y fun n => forceN (f m n) fun z => k (.int (.ofNat z)) σ) = true := h
  obtain ⟨x, t, σ₁, rfl, h1, e₁, H₁⟩ := con_ok H Va h
  obtain ⟨m, rfl, h2⟩ := natOf_ok h1
  obtain ⟨y, u, σ₂, rfl, h3, e₂, H₂⟩ := con_ok H₁ Vb h2
  obtain ⟨j, rfl, h4⟩ := natOf_ok h3
  exact hf A E s Q m j t u (C _ _ _ _ _ (forceN_ok h4) (e₂.lo.trans e₁.lo) (Step.toks _) (H₂.toks _) ⟨_, rfl⟩)
theorem op_or : Op2 X n (nop Nat.lor) (binaryOp .BitOr) := nop_ok fun A E s Q x y u v q => or_int (by rw [bitOr_nat]; exact q)
theorem op_and : Op2 X n (nop Nat.land) (binaryOp .BitAnd) := nop_ok fun A E s Q x y u v q => and_int (by rw [bitAnd_nat]; exact q)
theorem op_shr : Op2 X n (nop Nat.shiftRight) (binaryOp .RShift) := nop_ok fun A E s Q x y u v q => rshift_int (by omega) (by rw [Int.toNat_natCast, shr_nat]; exact q)
section
variable {A : Around} {s : Shared}
theorem rc_bytes (a b : Array UInt8) (t u : Tok) : RcAt A s (.bytes a t) (.bytes b u) (a.toList == b.toList) := fun prog w E Q h =>
  richCompare_gives (op := .Eq) (typeIs_bytes s a t) (typeIs_bytes s b u) FB.slot_bytes_eq FB.entry_bytes_eq (FB.args_bytes_eq_2 _ _) (gives_bytes_eq a b t u) (fun e => nomatch e) h
theorem rcne_bytes (a b : Array UInt8) (t u : Tok) : RcNeAt A s (.bytes a t) (.bytes b u) (!(a.toList == b.toList)) := fun prog w E Q h =>
  richCompare_gives (op := .NotEq) (typeIs_bytes s a t) (typeIs_bytes s b u) FB.slot_bytes_ne FB.entry_bytes_ne (FB.args_bytes_ne_2 _ _) (gives_bytes_ne a b t u) (fun e => nomatch e) h
theorem eq_bytesAt (a b : Array UInt8) (t u : Tok) : EqAt A s (.bytes a t) (.bytes b u) (a.toList == b.toList) := fun prog w E Q h => by
  unfold eqBool
  refine wpAny_holding ?_
  refine wpAny_ite_split (fun hab => ?_) (fun _ => ?_)
  · have e : a = b := by have := eq_of_beq hab; injection this
    subst e
    rw [beq_self_eq_true] at h
    exact wpAny_bind (wpAny_rule (wpAny_pure h))
  · exact wpAny_bind (rc_bytes a b t u prog w E _ (wpAny_truthy_bool h))
end
noncomputable def EqF (u : Nat) (s : Shared) (va vb : Value) (c : Bool) : Prop := ∀ A : Around, A.units + u < cLine → RcAt A s va vb c ∧ RcNeAt A s va vb (!c) ∧ EqAt A s va vb c
theorem byte_eq : ∀ {x y : List Nat}, (∀ z ∈ x, z < 256) → (∀ z ∈ y, z < 256) → ((x.map UInt8.ofNat).toArray.toList == (y.map UInt8.ofNat).toArray.toList) = leq x y := by
  intro x y hx hy
  have inj : ∀ {x y : List Nat}, (∀ z ∈ x, z < 256) → (∀ z ∈ y, z < 256) → x.map UInt8.ofNat = y.map UInt8.ofNat → x = y := by
    intro x
    induction x with
    | nil => intro y _ _ h; cases y with | nil => rfl | cons _ _ => simp at h
    | cons a r ih =>
      intro y hx hy h
      cases y with
      | nil => simp at h
      | cons b q =>
        rw [List.map_cons, List.map_cons, List.cons.injEq] at h
        have h1 := congrArg UInt8.toNat h.1
        rw [UInt8.toNat_ofNat', UInt8.toNat_ofNat', Nat.mod_eq_of_lt (hx a (by simp)), Nat.mod_eq_of_lt (hy b (by simp))] at h1
        rw [h1, ih (fun z hz => hx z (by simp [hz])) (fun z hz => hy z (by simp [hz])) h.2]
  rw [Bool.eq_iff_iff, beq_iff_eq, leq_iff]
  exact ⟨fun h => inj hx hy h, fun h => by rw [h]⟩
theorem st_eq {X : Cx} (x y : Nat) : (X.st x == X.st y) = Nat.beq x y := by
  rw [Bool.eq_iff_iff, beq_iff_eq, nbeq_iff]
  exact ⟨X.sti x y, fun h => by rw [h]⟩
theorem br_ok {c : Bool} {k : KB} {σ : St} (h : br c (k true σ) (k false σ) = true) : k c σ = true := by cases c <;> exact h
theorem eqN_scalar {W : Wd} {σ : St} {s : Shared} {k : KB} {u : Nat} {va vb : Value} (H : HRel X W σ s) {c : Bool} (h : k c σ = true) (q : EqF u s va vb c) : ∃ c σ', k c σ' = true ∧ SameSt σ σ' ∧ HRel X W σ' s ∧ EqF u s va vb c := ⟨c, σ, h, .refl σ, H, q⟩
theorem EqF.ints {u : Nat} {s : Shared} {x y : Int} {t v : Tok} : EqF u s (.int x t) (.int y v) (eqb x y) := fun A hu => by
  have e : eqb x y = (x == y) := by rw [Bool.eq_iff_iff, eqb_iff, beq_iff_eq]
  rw [e]; exact ⟨.int_int _ _ _ _, .int_int _ _ _ _, .int_int _ _ _ _⟩
theorem eqsBy_ok {n : Nat} {W : Wd} {s : Shared} (ih : ∀ {σ : St} {k : KB} {a b : AV} {va vb : Value}, HRel X W σ s → VR X W a va → VR X W b vb → eqN n a b σ k = true → ∃ c σ', k c σ' = true ∧ SameSt σ σ' ∧ HRel X W σ' s ∧ EqF n s va vb c) :
    ∀ {xs ys : List AV} {vs ws : List Value} {σ : St} {k : KS}, HRel X W σ s → VRs X W xs vs → VRs X W ys ws → eqsBy (eqN n) xs ys σ k = true → vs.length = ws.length ∧ ∃ σ', k σ' = true ∧ SameSt σ σ' ∧ HRel X W σ' s ∧
      ∀ (j : Nat) (v w : Value), vs[j]? = some v → ws[j]? = some w → EqF n s v w true
  | _, _, _, _, σ, k, H, .nil, .nil, h => ⟨rfl, σ, h, .refl σ, H, fun j v w e => by simp at e⟩
  | _, _, _, _, σ, k, H, .nil, .cons _ _, h => (nomatch (show false = true from h))
  | _, _, _, _, σ, k, H, .cons _ _, .nil, h => (nomatch (show false = true from h))
  | x :: xs, y :: ys, v :: vs, w :: ws, σ, k, H, .cons V Vs, .cons V' Vs', h => by
    have h : eqN n x y σ (fun b σ => br b (eqsBy (eqN n) xs ys σ k) false) = true := h
    obtain ⟨c, σ₁, h1, e₁, H₁, q⟩ := ih H V V' h
    obtain ⟨hc, h2⟩ := br_false h1
    subst hc
    obtain ⟨l, σ₂, h3, e₂, H₂, r⟩ := eqsBy_ok ih H₁ Vs Vs' h2
    refine ⟨by simp [l], σ₂, h3, e₁.trans e₂, H₂, fun j a b ha hb => ?_⟩
    cases j with
    | zero => simp at ha hb; subst ha hb; exact q
    | succ j => exact r j a b (by simpa using ha) (by simpa using hb)
theorem eqF_lists {u : Nat} {s : Shared} {l b : Addr} {vs ws : List Value} (hl : s.heap.IsList l vs.toArray) (hb : s.heap.IsList b ws.toArray) (hz : vs.length = ws.length) (r : ∀ (j : Nat) (v w : Value), vs[j]? = some v → ws[j]? = some w → EqF u s v w true) :
    EqF (u + 1) s (.ref l) (.ref b) true := fun A hu => by
  have he : ∀ j (h1 : j < vs.toArray.size) (h2 : j < ws.toArray.size), EqAt A.in1 s vs.toArray[j] ws.toArray[j] ((fun _ => true) j) := fun j h1 h2 =>
    (r j _ _ (by simp at h1; simp [h1]) (by simp at h2; simp [h2]) A.in1 (by rw [Around.in1_units]; omega)).2.2
  have a1 := RcAt.lists hl hb (by simpa using hz) (by omega) he
  have a2 := RcNeAt.lists hl hb (by simpa using hz) (by omega) he
  have e : ((List.range vs.toArray.size).all fun _ => true) = true := by simp
  rw [e] at a1 a2
  refine ⟨a1, a2, ?_⟩
  by_cases q : l = b
  · subst q; exact .same _
  · exact .of_refs q a1
theorem eqF_listsNe {u : Nat} {s : Shared} {l b : Addr} {vs ws : List Value} (hl : s.heap.IsList l vs.toArray) (hb : s.heap.IsList b ws.toArray) (hz : vs.length ≠ ws.length) : EqF (u + 1) s (.ref l) (.ref b) false := fun A hu => by
  have a1 := RcAt.lists_lengths (A := A) hl hb (by simpa using hz) (by omega)
  refine ⟨a1, RcNeAt.lists_lengths (A := A) hl hb (by simpa using hz) (by omega), .of_refs ?_ a1⟩
  rintro rfl
  obtain ⟨o, g, _, n, d⟩ := hl
  obtain ⟨o', g', _, n', d'⟩ := hb
  rw [g] at g'; cases g'
  rw [d] at d'
  injection d' with d'
  exact hz (by have := congrArg Array.size d'; simpa using this)
theorem eqF_tups {u : Nat} {s : Shared} {l b : Addr} {vs ws : List Value} (hl : s.heap.IsTuple l vs.toArray) (hb : s.heap.IsTuple b ws.toArray) (hz : vs.length = ws.length) (r : ∀ (j : Nat) (v w : Value), vs[j]? = some v → ws[j]? = some w → EqF u s v w true) :
    EqF (u + 1) s (.ref l) (.ref b) true := fun A hu => by
  have he : ∀ j (h1 : j < vs.toArray.size) (h2 : j < ws.toArray.size), EqAt A.in1 s vs.toArray[j] ws.toArray[j] ((fun _ => true) j) := fun j h1 h2 =>
    (r j _ _ (by simp at h1; simp [h1]) (by simp at h2; simp [h2]) A.in1 (by rw [Around.in1_units]; omega)).2.2
  have a1 := RcAt.tuples hl hb (by omega) he
  have a2 := RcNeAt.tuples hl hb (by omega) he
  have e : (((List.range (min vs.toArray.size ws.toArray.size)).all fun _ => true) && vs.toArray.size == ws.toArray.size) = true := by simp [hz]
  rw [e] at a1 a2
  refine ⟨a1, a2, ?_⟩
  by_cases q : l = b
  · subst q; exact .same _
  · exact .of_refs q a1
theorem eqN_ok : ∀ {n : Nat} {W : Wd} {σ : St} {s : Shared} {k : KB} {a b : AV} {va vb : Value}, HRel X W σ s → VR X W a va → VR X W b vb → eqN n a b σ k = true → ∃ c σ', k c σ' = true ∧ SameSt σ σ' ∧ HRel X W σ' s ∧ EqF n s va vb c
  | 0, _, _, _, _, _, _, _, _, _, _, _, h => (nomatch (show false = true from h))
  | n + 1, W, σ, s, k, a, b, va, vb, H, Va, Vb, h => by
    cases a <;> try exact (nomatch (show false = true from h))
    · cases Va
      cases b <;> try exact (nomatch (show false = true from h))
      · cases Vb; exact eqN_scalar H h fun A hu => ⟨.none_none, .none_none, .same _⟩
      · cases Vb; exact eqN_scalar H h fun A hu => ⟨.none_bool _, .none_bool _, .none_bool _⟩
      · cases Vb; exact eqN_scalar H h fun A hu => ⟨.none_bool _, .none_bool _, .none_bool _⟩
      · obtain ⟨t, rfl⟩ := Vb; exact eqN_scalar H h fun A hu => ⟨.none_int _ _, .none_int _ _, .none_int _ _⟩
      · obtain ⟨_, _, _, _, _, rfl⟩ := Vb; exact eqN_scalar H h fun A hu => ⟨.none_int _ _, .none_int _ _, .none_int _ _⟩
      · obtain ⟨t, rfl⟩ := Vb; exact eqN_scalar H h fun A hu => ⟨.none_str _ _, .none_str _ _, .none_str _ _⟩
    · rename_i x
      cases b <;> try exact (nomatch (show false = true from h))
      · obtain ⟨t, rfl⟩ := Va; cases Vb; exact eqN_scalar H h fun A hu => ⟨.int_none _ _, .int_none _ _, .int_none _ _⟩
      · rename_i y
        obtain ⟨x', y', t, u, σ', rfl, rfl, h, e, H'⟩ := irel_ok (f := eqb) (a := .int x) (b := .int y) (k := k) H h Va Vb
        exact ⟨_, σ', h, e, H', EqF.ints⟩
      · rename_i t' l
        obtain ⟨x', y', t, u, σ', rfl, rfl, h, e, H'⟩ := irel_ok (f := eqb) (a := .int x) (b := .vec t' l) (k := k) H h Va Vb
        exact ⟨_, σ', h, e, H', EqF.ints⟩
      · obtain ⟨t, rfl⟩ := Va; obtain ⟨u, rfl⟩ := Vb; exact eqN_scalar H h fun A hu => ⟨.int_str _ _ _ _, .int_str _ _ _ _, .int_str _ _ _ _⟩
    · rename_i t' l
      cases b <;> try exact (nomatch (show false = true from h))
      · obtain ⟨_, _, _, _, _, rfl⟩ := Va; cases Vb; exact eqN_scalar H h fun A hu => ⟨.int_none _ _, .int_none _ _, .int_none _ _⟩
      · rename_i y
        obtain ⟨x', y', t, u, σ', rfl, rfl, h, e, H'⟩ := irel_ok (f := eqb) (a := .vec t' l) (b := .int y) (k := k) H h Va Vb
        exact ⟨_, σ', h, e, H', EqF.ints⟩
      · rename_i t'' l'
        obtain ⟨x', y', t, u, σ', rfl, rfl, h, e, H'⟩ := irel_ok (f := eqb) (a := .vec t' l) (b := .vec t'' l') (k := k) H h Va Vb
        exact ⟨_, σ', h, e, H', EqF.ints⟩
      · obtain ⟨_, _, _, _, _, rfl⟩ := Va; obtain ⟨u, rfl⟩ := Vb; exact eqN_scalar H h fun A hu => ⟨.int_str _ _ _ _, .int_str _ _ _ _, .int_str _ _ _ _⟩
    · rename_i x
      obtain ⟨t, rfl⟩ := Va
      cases b <;> try exact (nomatch (show false = true from h))
      · cases Vb; exact eqN_scalar H h fun A hu => ⟨.str_none _ _, .str_none _ _, .str_none _ _⟩
      · obtain ⟨u, rfl⟩ := Vb; exact eqN_scalar H h fun A hu => ⟨.str_int _ _ _ _, .str_int _ _ _ _, .str_int _ _ _ _⟩
      · obtain ⟨_, _, _, _, _, rfl⟩ := Vb; exact eqN_scalar H h fun A hu => ⟨.str_int _ _ _ _, .str_int _ _ _ _, .str_int _ _ _ _⟩
      · rename_i y
        obtain ⟨u, rfl⟩ := Vb
        exact eqN_scalar H (br_ok h) fun A hu => by rw [← st_eq (X := X)]; exact ⟨.str_str _ _ _ _, .str_str _ _ _ _, .str_str _ _ _ _⟩
    · rename_i x
      obtain ⟨y, rfl, h⟩ := onBytes_ok h
      obtain ⟨⟨l1, q1⟩, t, rfl⟩ := Va
      obtain ⟨⟨l2, q2⟩, u, rfl⟩ := Vb
      exact eqN_scalar H (br_ok h) fun A hu => by rw [← byte_eq q1 q2]; exact ⟨rc_bytes _ _ _ _, rcne_bytes _ _ _ _, eq_bytesAt _ _ _ _⟩
    · rename_i i
      obtain ⟨j, rfl, h1⟩ := onOwn_ok h
      obtain ⟨p, o, hp, rfl, ho, ro, h2⟩ := own_obj H Va h1
      obtain ⟨p', o', hp', rfl, ho', ro', h3⟩ := own_obj H Vb h2
      cases o <;> try exact (nomatch (show false = true from h3))
      · rename_i xs
        obtain ⟨ys, rfl, h4⟩ := onList_ok h3
        obtain ⟨l1, vs, n1, g1, V1⟩ := ro
        obtain ⟨l2, ws, n2, g2, V2⟩ := ro'
        have h5 := len_ok h4
        have h6 := len_ok h5
        rw [br_iff, Nat.zero_add, Nat.zero_add] at h6
        rcases h6 with ⟨hl, h7⟩ | ⟨hl, h7⟩
        · obtain ⟨l, σ', h8, e, H', r⟩ := eqsBy_ok (fun H Va Vb h => eqN_ok H Va Vb h) H V1 V2 h7
          exact ⟨true, σ', h8, e, H', eqF_lists ⟨_, g1, rfl, _, rfl⟩ ⟨_, g2, rfl, _, rfl⟩ l r⟩
        · refine ⟨false, σ, h7, .refl σ, H, eqF_listsNe ⟨_, g1, rfl, _, rfl⟩ ⟨_, g2, rfl, _, rfl⟩ ?_⟩
          rw [V1.length, V2.length]
          exact Nat.ne_of_beq_eq_false hl
      · rename_i xs
        obtain ⟨ys, rfl, h4⟩ := onTup_ok h3
        obtain ⟨l1, vs, n1, g1, V1⟩ := ro
        obtain ⟨l2, ws, n2, g2, V2⟩ := ro'
        obtain ⟨l, σ', h8, e, H', r⟩ := eqsBy_ok (fun H Va Vb h => eqN_ok H Va Vb h) H V1 V2 h4
        exact ⟨true, σ', h8, e, H', eqF_tups ⟨_, g1, rfl, _, rfl⟩ ⟨_, g2, rfl, _, rfl⟩ l r⟩
theorem cLine_ge : 9800 ≤ cLine := by unfold cLine; decide
theorem op_eq : Rel2 X n eqV (compareOp .Eq) := by
  intro A hA a b σ k h E s W Q va vb H Va Vb C
  obtain ⟨c, σ', h, e, H', q⟩ := eqN_ok H Va Vb h
  exact (q A (by have := hA.un; have := cLine_ge; omega)).1 _ _ _ _ ⟨_, rfl, C _ _ _ _ h e.lo (.refl ..) H'⟩
theorem op_ne : RelN X n eqV (compareOp .NotEq) := by
  intro A hA a b σ k h E s W Q va vb H Va Vb C
  obtain ⟨c, σ', h, e, H', q⟩ := eqN_ok H Va Vb h
  exact (q A (by have := hA.un; have := cLine_ge; omega)).2.1 _ _ _ _ ⟨_, rfl, C _ _ _ _ h e.lo (.refl ..) H'⟩
end
section
variable {X : Cx} {n : Nat}
noncomputable def isI (x : Int) : Value → Bool
  | .int y _ => y == x
  | _ => false
noncomputable def isS (x : Str) : Value → Bool
  | .str y _ => y == x
  | _ => false
theorem memI_ok {W : Wd} {x : Int} : ∀ {l : List AV} {vs : List Value} {k : Bool → Bool}, VRs X W l vs → memI l x k = true → k (vs.any (isI x)) = true ∧ ∀ v ∈ vs, ∃ y t, v = .int y t
  | _, _, k, .nil, h => ⟨h, fun v hv => by simp at hv⟩
  | a :: l, v :: vs, k, .cons V Vs, h => by
    cases a <;> try exact (nomatch (show false = true from h))
    rename_i y
    obtain ⟨t, rfl⟩ := V
    have h : memI l x (fun b => br (eqb y x) (k true) (k b)) = true := h
    obtain ⟨h1, h2⟩ := memI_ok Vs h
    refine ⟨?_, fun v hv => ?_⟩
    · have e : isI x (.int y t) = eqb y x := by show (y == x) = _; rw [Bool.eq_iff_iff, eqb_iff, beq_iff_eq]
      rw [List.any_cons, e]
      cases q : eqb y x <;> rw [q] at h1 <;> exact h1
    · rcases List.mem_cons.mp hv with rfl | hv
      · exact ⟨_, _, rfl⟩
      · exact h2 v hv
theorem memS_ok {W : Wd} {x : Nat} : ∀ {l : List AV} {vs : List Value} {k : Bool → Bool}, VRs X W l vs → memS l x k = true → k (vs.any (isS (X.st x))) = true ∧ ∀ v ∈ vs, ∃ y t, v = .str y t
  | _, _, k, .nil, h => ⟨h, fun v hv => by simp at hv⟩
  | a :: l, v :: vs, k, .cons V Vs, h => by
    cases a <;> try exact (nomatch (show false = true from h))
    rename_i y
    obtain ⟨t, rfl⟩ := V
    have h : memS l x (fun b => br (Nat.beq y x) (k true) (k b)) = true := h
    obtain ⟨h1, h2⟩ := memS_ok Vs h
    refine ⟨?_, fun v hv => ?_⟩
    · have e : isS (X.st x) (.str (X.st y) t) = Nat.beq y x := st_eq y x
      rw [List.any_cons, e]
      cases q : Nat.beq y x <;> rw [q] at h1 <;> exact h1
    · rcases List.mem_cons.mp hv with rfl | hv
      · exact ⟨_, _, rfl⟩
      · exact h2 v hv
theorem dget_ok {W : Wd} {x : Int} : ∀ {es : List (Int × AV)} {kvs : List (Int × Value)} {k : AV → Bool} {d : Unit → Bool}, DR X W es kvs → dget es x k d = true →
    (∃ a v, valueAt kvs x = some v ∧ VR X W a v ∧ k a = true) ∨ (valueAt kvs x = none ∧ d () = true)
  | _, _, k, d, .nil, h => .inr ⟨rfl, h⟩
  | (y, a) :: es, (_, v) :: kvs, k, d, .cons V R, h => by
    have h : br (eqb x y) (k a) (dget es x k d) = true := h
    rw [br_iff] at h
    unfold valueAt
    rcases h with ⟨e, h1⟩ | ⟨e, h1⟩
    · have := eqb_iff.mp e
      subst this
      rw [List.find?_cons, decide_eq_true rfl]
      exact .inl ⟨a, v, rfl, V, h1⟩
    · have : ¬ y = x := fun q => by rw [eqb_iff.mpr q.symm] at e; cases e
      rw [List.find?_cons, decide_eq_false this]
      exact dget_ok R h1
theorem DR.keys {W : Wd} : ∀ {es : List (Int × AV)} {kvs : List (Int × Value)}, DR X W es kvs → es.map (·.1) = kvs.map (·.1)
  | _, _, .nil => rfl
  | _, _, .cons _ R => by rw [List.map_cons, List.map_cons, R.keys]
theorem DR.length {W : Wd} {es : List (Int × AV)} {kvs : List (Int × Value)} (h : DR X W es kvs) : kvs.length = es.length := by
  have := congrArg List.length h.keys
  simpa using this.symm
theorem stored_cons (p : Int × Value) (r : List (Int × Value)) (x : Int) (v : Value) (h : ((p :: r).map (·.1)).Nodup) : stored (p :: r) x v = if p.1 = x then (p.1, v) :: r else p :: stored r x v := by
  rw [List.map_cons, List.nodup_cons] at h
  unfold stored
  by_cases q : p.1 = x
  · rw [if_pos q, if_pos (by simp [q]), List.map_cons, if_pos q, map_store_of_not_mem r x v (q ▸ h.1)]
  · rw [if_neg q, List.any_cons, decide_eq_false q, Bool.false_or]
    by_cases z : (r.any fun kv => decide (kv.1 = x)) = true
    · rw [if_pos z, if_pos z, List.map_cons, if_neg q]
    · rw [if_neg z, if_neg z]; rfl
theorem dset_ok {W : Wd} {x : Int} {a : AV} {v : Value} (V : VR X W a v) : ∀ {es : List (Int × AV)} {kvs : List (Int × Value)} {k : List (Int × AV) → Bool}, DR X W es kvs → (kvs.map (·.1)).Nodup → dset es x a k = true →
    ∃ es', k es' = true ∧ DR X W es' (stored kvs x v)
  | _, _, k, .nil, _, h => ⟨_, h, .cons V .nil⟩
  | (y, b) :: es, (_, u) :: kvs, k, .cons V' R, hn, h => by
    have h : br (eqb x y) (k ((y, a) :: es)) (dset es x a fun r' => k ((y, b) :: r')) = true := h
    rw [br_iff] at h
    rw [stored_cons _ _ _ _ hn]
    rcases h with ⟨e, h⟩ | ⟨e, h⟩
    · have := eqb_iff.mp e
      subst this
      rw [if_pos rfl]
      exact ⟨_, h, .cons V R⟩
    · have : ¬ y = x := fun q => by rw [eqb_iff.mpr q.symm] at e; cases e
      rw [if_neg this]
      obtain ⟨es', h1, R'⟩ := dset_ok V R (by rw [List.map_cons, List.nodup_cons] at hn; exact hn.2) h
      exact ⟨_, h1, .cons V' R'⟩
theorem ddel_ok {W : Wd} {x : Int} : ∀ {es : List (Int × AV)} {kvs : List (Int × Value)} {k : AV → List (Int × AV) → Bool}, DR X W es kvs → (kvs.map (·.1)).Nodup → ddel es x k = true →
    ∃ a v es', k a es' = true ∧ valueAt kvs x = some v ∧ VR X W a v ∧ DR X W es' (without kvs x)
  | _, _, k, .nil, _, h => (nomatch (show false = true from h))
  | (y, b) :: es, (_, u) :: kvs, k, .cons V' R, hn, h => by
    have h : br (eqb x y) (k b es) (ddel es x fun v r' => k v ((y, b) :: r')) = true := h
    rw [br_iff] at h
    rw [List.map_cons, List.nodup_cons] at hn
    unfold valueAt
    rcases h with ⟨e, h0⟩ | ⟨e, h0⟩
    · have := eqb_iff.mp e
      subst this
      refine ⟨b, u, es, h0, by rw [List.find?_cons, decide_eq_true rfl]; rfl, V', ?_⟩
      unfold without
      rw [List.filter_cons, if_neg (by simp)]
      have := without_of_not_mem kvs x hn.1
      unfold without at this
      rw [this]; exact R
    · have q : ¬ y = x := fun q => by rw [eqb_iff.mpr q.symm] at e; cases e
      obtain ⟨a, v, es', h1, h2, V2, R'⟩ := ddel_ok R hn.2 h0
      refine ⟨a, v, _, h1, by rw [List.find?_cons, decide_eq_false q]; exact h2, V2, ?_⟩
      unfold without at R' ⊢
      rw [List.filter_cons, if_pos (by simp [q])]
      exact .cons V' R'
theorem own_ne_sys {W : Wd} {σ : St} {s : Shared} (H : HRel X W σ s) {i : Nat} {p : Addr × Addr} (hp : W.ρ[i]? = some p) : (p.1 == sysModules) = false := by
  rw [beq_eq_false_iff_ne]
  intro e
  have := H.old p.1 ⟨p, List.mem_of_getElem? hp, .inl rfl⟩
  have s := X.sys
  rw [← e, this] at s
  cases s
theorem isInt_int (x : Int) (t : Tok) : (intKind X.prog X.w).is x (.int x t) = true := by
  show Value.isInt x (.int x t) = true
  simp [Value.isInt]
theorem in_ok {A : Around} {W : Wd} {σ : St} {s : Shared} {a b : AV} {va vb : Value} {k : KB} (H : HRel X W σ s) (Va : VR X W a va) (Vb : VR X W b vb) (h : inV a b σ k = true) :
    ∃ c σ' t, k c σ' = true ∧ SameSt σ σ' ∧ HRel X W σ' s ∧ ∀ (E : Value → Shared → Prop) (Q : Value → Shared → Prop), (Q (.bool c) { s with toks := s.toks + t } → wpAny (model X.prog X.w) A (compareOp .In va vb) Q E s) ∧
      (Q (.bool (!c)) { s with toks := s.toks + t } → wpAny (model X.prog X.w) A (compareOp .NotIn va vb) Q E s) := by
  obtain ⟨i, rfl, h1⟩ := onOwn_ok h
  obtain ⟨p, o, hp, rfl, ho, ro, h2⟩ := own_obj H Vb h1
  cases o <;> try exact (nomatch (show false = true from h2))
  · rename_i xs
    have h2 : con a σ (fun x σ => memI xs x fun b => k b σ) = true := h2
    obtain ⟨x, t, σ', rfl, h3, e, H'⟩ := con_ok H Va h2
    obtain ⟨l1, vs, n1, g1, V1⟩ := ro
    obtain ⟨h4, hi⟩ := memI_ok V1 h3
    have he : ∀ y ∈ vs.toArray, MeetsSeq.EqGives y (.int x t) (isI x y) := fun y hy => by
      obtain ⟨z, u, rfl⟩ := hi y (by simpa using hy)
      exact MeetsSeq.EqGives.int z x u t
    have ea : vs.toArray.any (isI x) = vs.any (isI x) := by simp
    exact ⟨_, σ', 0, h4, e, H', fun E Q => ⟨fun q => SeqRoads2.in_list (isI x) he g1 (by rw [ea]; exact q), fun q => SeqRoads2.notIn_list (isI x) he g1 (by rw [ea]; exact q)⟩⟩
  · rename_i xs
    obtain ⟨x, rfl, h3⟩ := onStr_ok h2
    obtain ⟨t, rfl⟩ := Va
    obtain ⟨l1, vs, n1, g1, V1⟩ := ro
    obtain ⟨h4, hi⟩ := memS_ok V1 h3
    have he : ∀ y ∈ vs.toArray, MeetsSeq.EqGives y (.str (X.st x) t) (isS (X.st x) y) := fun y hy => by
      obtain ⟨z, u, rfl⟩ := hi y (by simpa using hy)
      have := SeqRoads2.EqGives.str z (X.st x) u t
      rw [str_beq] at this
      exact this
    have ea : vs.toArray.any (isS (X.st x)) = vs.any (isS (X.st x)) := by simp
    exact ⟨_, σ, 0, h4, .refl σ, H, fun E Q => ⟨fun q => SeqRoads2.in_tuple (isS (X.st x)) he g1 (by rw [ea]; exact q), fun q => SeqRoads2.notIn_tuple (isS (X.st x)) he g1 (by rw [ea]; exact q)⟩⟩
  · rename_i es
    have h2 : con a σ (fun x σ => dget es x (fun _ => k true σ) fun _ => k false σ) = true := h2
    obtain ⟨x, t, σ', rfl, h3, e, H'⟩ := con_ok H Va h2
    obtain ⟨l1, kvs, D, R⟩ := ro
    have hs := own_ne_sys H hp
    rcases dget_ok R h3 with ⟨a, v, e1, _, h4⟩ | ⟨e1, h4⟩
    · exact ⟨true, σ', 1, h4, e, H', fun E Q => ⟨fun q => wpAny_in_of (isInt_int x t) hs D.mapOf (by rw [e1]; exact q), fun q => wpAny_notIn_of (isInt_int x t) hs D.mapOf (by rw [e1]; exact q)⟩⟩
    · exact ⟨false, σ', 1, h4, e, H', fun E Q => ⟨fun q => wpAny_in_of (isInt_int x t) hs D.mapOf (by rw [e1]; exact q), fun q => wpAny_notIn_of (isInt_int x t) hs D.mapOf (by rw [e1]; exact q)⟩⟩
theorem op_in : Rel2 X n inV (compareOp .In) := by
  intro A hA a b σ k h E s W Q va vb H Va Vb C
  obtain ⟨c, σ', t, h1, e, H', q⟩ := in_ok (A := A) H Va Vb h
  exact (q E _).1 ⟨c, rfl, C _ _ _ _ h1 e.lo (Step.toks _) (H'.toks _)⟩
theorem op_notIn : RelN X n inV (compareOp .NotIn) := by
  intro A hA a b σ k h E s W Q va vb H Va Vb C
  obtain ⟨c, σ', t, h1, e, H', q⟩ := in_ok (A := A) H Va Vb h
  exact (q E _).2 ⟨c, rfl, C _ _ _ _ h1 e.lo (Step.toks _) (H'.toks _)⟩
end
end Mine
end
section
open PySem PySem.W PySem.Calls PyProof.Rows
namespace Mine
section
variable {X : Cx} {n : Nat} {sc : List (Str × NameKind)}
structure ClsOk (X : Cx) (C : Nat) : Prop where
  cls : ∃ cd, clsIn X.F (X.cls C) = some cd ∧ cd.hasDict = true
  ga : findIn X.F (.ref (X.cls C)) "__getattribute__" = some (some (.builtin "object.__getattribute__"))
  gt : findIn X.F (.ref (X.cls C)) "__getattr__" = some none
  st : findIn X.F (.ref (X.cls C)) "__setattr__" = some (some (.builtin "object.__setattr__"))
  over : plainOver X.F (X.cls C) = true
theorem lookIn_ns {o : Obj} {es : Array DictEntry} {ep : Nat} {name : Str} (hd : o.data = .dict es ep) (hk : StrKeys es) : lookIn name o = some (nsFind es name) := by
  unfold lookIn
  rw [hd]
  dsimp only
  unfold nsFind findBy
  rw [← Array.find?_toList]
  cases e : es.toList.find? (fun x => x.key.isStr name) with
  | some x => rfl
  | none =>
    have : es.toList.any (·.refKey) = false := by
      rw [List.any_eq_false]
      intro x hx
      obtain ⟨n, t, q⟩ := hk x (by simpa using hx)
      simp [DictEntry.refKey, q]
    dsimp only
    rw [if_neg (by rw [this]; exact Bool.false_ne_true)]
    rfl
theorem inst_at {W : Wd} {h : Heap} {p : Addr × Addr} {C : Nat} {fs : FL} (r : RO X W h p (.inst C fs)) : ∃ o m, FR X W fs m ∧ InstAt h p.1 (instObj (X.cls C) p.2) (X.cls C) (some o) ∧ ∀ name, lookIn name o = some (m name) := by
  obtain ⟨_, g, m, ⟨o, es, ep, go, hd, hk, hm, _⟩, hf⟩ := r
  exact ⟨o, m, hf, ⟨g, rfl, rfl, go⟩, fun name => by rw [lookIn_ns hd hk, hm]⟩
theorem findObj_value {K : Frag} {C : Addr} {o : Obj} {name : Str} {cd : ClassData} {v : Value} (hc : clsIn K C = some cd) (hd : cd.hasDict = true) (hf : findIn K (.ref C) name = some none) (hl : lookIn name o = some (some v)) : findObj K C (some o) name = some (.value v) := by
  unfold findObj
  rw [hc, Option.bind_some, hf, Option.bind_some]
  simp [PySem.W.ownOf, hd, hl]
theorem VR.handed {W : Wd} {a : AV} {v : Value} (V : VR X W a v) : handedIn v = true := by
  cases a with
  | none => rw [show v = .none from V]; rfl
  | tt => rw [show v = _ from V]; rfl
  | ff => rw [show v = _ from V]; rfl
  | int i => obtain ⟨t, rfl⟩ := V; rfl
  | vec t l => obtain ⟨_, _, _, _, _, rfl⟩ := V; rfl
  | str x => obtain ⟨t, rfl⟩ := V; rfl
  | bytes x => obtain ⟨_, t, rfl⟩ := V; rfl
  | own i => obtain ⟨p, _, rfl⟩ := V; rfl
theorem beqC {C D : Nat} {b : Bool} (h : br (Nat.beq C D) b false = true) : C = D ∧ b = true := by
  obtain ⟨h0, h⟩ := br_false h
  exact ⟨Nat.eq_of_beq_eq_true h0, h⟩
theorem SimE.attr {C a : Nat} {m : M} {value : Expr} {x : Str} {pos : Pos} (hC : ClsOk X C) (hx : X.nm a = x) (hf : findIn X.F (.ref (X.cls C)) x = some none)
    (hb : ∀ (env : Env) (w : Sem Value), attributeBase value x env w = w) (hm : SimE X n sc m value) : SimE X n sc (attr C m a) (.Attribute value x pos) := by
  intro env L hE A hA σ k h E s W Q H hL Co
  refine Attribute_any_ (hm env L hE A hA σ _ h E s W _ H hL fun v σ₁ W₁ s₁ va h₁ e₁ x₁ H₁ V₁ => ?_) (by rw [arm_eval_Attribute, hb])
  obtain ⟨i, rfl, h2⟩ := onOwn_ok h₁
  obtain ⟨p, o, hp, rfl, ho, ro, h3⟩ := own_obj H₁ V₁ h2
  obtain ⟨D, fs, rfl, h4⟩ := onInst_ok h3
  obtain ⟨rfl, h5⟩ := beqC h4
  obtain ⟨u, eu, h6⟩ := look_ok h5
  obtain ⟨od, mm, hfr, I, hl⟩ := inst_at ro
  obtain ⟨v, ev, V⟩ := hfr.some eu
  obtain ⟨cd, hc, hd⟩ := hC.cls
  exact get_value (X.FIn.keeps H₁.base) I hC.ga (findObj_value hc hd hf (by rw [hl, ← hx, ev])) V.handed (Co _ _ _ _ _ h6 e₁ (x₁.trans (Step.toks _)) (H₁.toks _) V)
noncomputable def FnSim (X : Cx) (n : Nat) (f : MF) (a : Addr) (N : Nat) : Prop := ∀ (A : Around), Room n A → ∀ (as : List AV), as.length = N → ∀ (σ : St) (k : K), f as σ k = true → ∀ (E : Value → Shared → Prop) (s : Shared) (W : Wd) (Q : Value → Shared → Prop) (vs : List Value),
  HRel X W σ s → VRs X W as vs → Cont X σ s W k Q → codeAny (model X.prog X.w) A (.call (.ref a) ⟨vs, []⟩) (fun r s' => match r with | .ok (.ret v) => Q v s' | .ok _ => False | .error e => E e s') s
theorem FnSim.call {f : MF} {a : Addr} {N : Nat} (hf : FnSim X n f a N) {A : Around} (hA : Room n A) {as : List AV} (hN : as.length = N) {σ : St} {k : K} (h : f as σ k = true) {E : Value → Shared → Prop} {s : Shared} {W : Wd} {Q : Value → Shared → Prop} {vs : List Value}
    (H : HRel X W σ s) (V : VRs X W as vs) (C : Cont X σ s W k Q) : wpAny (model X.prog X.w) A (call (.ref a) vs) Q E s := wpAny_call (hf A hA as hN σ k h E s W Q vs H V C)
theorem Room.weak {m n : Nat} {A : Around} (h : Room n A) (l : m ≤ n) : Room m A := ⟨h.hand, by have := h.dep; omega, by have := h.un; omega⟩
theorem evalArgs_of {M : Model} {A : Around} {E : Value → Shared → Prop} {s : Shared} {f : Value} {trees : List (Bool × Sem Value)} {Q : Args → Shared → Prop} (hp : trees.any (·.1) = false)
    (h : wpAny M A (spliced trees) (fun vs s' => Q ⟨vs, []⟩ s') E s) : wpAny M A (evalArgs f true trees []) Q E s := by
  cases trees with
  | nil =>
    unfold evalArgs
    show wpAny M A (spliced [] >>= _) Q E s
    refine wpAny_bind (wpAny_mono h (fun vs s' h' => ?_) fun _ _ x => x)
    refine wpAny_holding ?_
    exact wpAny_bind (wpAny_pure (wpAny_bind (wpAny_pure (wpAny_pure h'))))
  | cons t r =>
    obtain ⟨b, x⟩ := t
    cases b with
    | true => simp at hp
    | false => exact evalArgs_plain h
theorem SimE.callF {f : MF} {a : Addr} {ms : ML} {es : List Expr} {x : Str} {p pos : Pos} {m : Nat} (hg : nsIn X.F X.G x = some (some (.ref a))) (hl : sc.lookup x = some .globalImplicit) (hd : (x == ("__debug__" : Str)) = false) (hk : keepIn X.F (.ref a) = true)
    (hp : ∀ (env : Env), (backTo pos (starEach es env)).any (·.1) = false) (hf : FnSim X m f a es.length) (hmn : m ≤ n) (hs : SimL X n sc ms es) : SimE X n sc (callF f ms) (.Call (.Name x p) es [] pos) := by
  intro env L hE A hA σ k h E s W Q H hL C
  refine wpAny_Call_Name_kw (glob_ok hE hg hl hd H ?_)
  refine callWith_of (by rw [hp env]; rfl) (keeps_K hk) (evalArgs_of (hp env) (hs pos env L hE A hA σ _ h E s W _ H hL fun vs σ₁ W₁ s₁ as h₁ l₁ e₁ x₁ H₁ V₁ => ⟨X.FIn.keeps H₁.base, ?_⟩))
  exact hf.call (hA.weak hmn) l₁ h₁ H₁ V₁ (C.step e₁ x₁)
theorem noFld_ok : ∀ {fs : FL} {m : Nat} {b : Bool}, noFld fs m b = true → fs.at m = none ∧ b = true
  | .nil, m, b, h => ⟨rfl, h⟩
  | .cons y v r, m, b, h => by
    have h : br (Nat.beq y m) false (noFld r m b) = true := h
    rw [br_iff] at h
    rcases h with ⟨_, h⟩ | ⟨h0, h⟩
    · cases h
    · obtain ⟨h1, h2⟩ := noFld_ok h
      have := Nat.ne_of_beq_eq_false h0
      exact ⟨by unfold FL.at; rw [if_neg (Ne.symm this)]; exact h1, h2⟩
theorem chkM_ok {C m : Nat} {v : AV} {va : Value} {σ : St} {b : Bool} {W : Wd} {s : Shared} (H : HRel X W σ s) (V : VR X W v va) (h : chkM C m v σ b = true) :
    ∃ (p : Addr × Addr) (o : Obj), va = .ref p.1 ∧ InstAt s.heap p.1 (instObj (X.cls C) p.2) (X.cls C) (some o) ∧ lookIn (X.nm m) o = some none ∧ b = true := by
  obtain ⟨i, rfl, h2⟩ := onOwn_ok h
  obtain ⟨p, o, hp, rfl, ho, ro, h3⟩ := own_obj H V h2
  obtain ⟨D, fs, rfl, h4⟩ := onInst_ok h3
  obtain ⟨rfl, h5⟩ := beqC h4
  obtain ⟨h6, h7⟩ := noFld_ok h5
  obtain ⟨od, mm, hfr, I, hl⟩ := inst_at ro
  exact ⟨p, od, rfl, I, by rw [hl, hfr.none h6], h7⟩
theorem SimE.meth {C mi : Nat} {f : MF} {a : Addr} {o : M} {ms : ML} {oe : Expr} {es : List Expr} {x : Str} {apos pos : Pos} {m : Nat} (hC : ClsOk X C) (hx : X.nm mi = x) (hfi : findIn X.F (.ref (X.cls C)) x = some (some (.ref a))) (ht : typeIn X.F (.ref a) = some (.type "function"))
    (hk : keepIn X.F (.ref a) = true) (hp : ∀ (env : Env), (backTo pos (starEach es env)).any (·.1) = false)
    (he : ∀ (env : Env), eval (.Call (.Attribute oe x apos) es [] pos) env = (do
      let ov ← eval oe env
      standAt apos.atName
      let (f, first) ← holding [ov] (getMethod ov x (do return (← importBound oe env).getD true))
      callWith pos f first (backTo pos (starEach es env)) (backToKw pos (keywordEach [] env))))
    (hf : FnSim X m f a (es.length + 1)) (hmn : m ≤ n) (ho : SimE X n sc o oe) (hs : SimL X n sc ms es) : SimE X n sc (meth C mi f o ms) (.Call (.Attribute oe x apos) es [] pos) := by
  intro env L hE A hA σ k h E s W Q H hL Co
  refine methodCall_KW (ho env L hE A hA σ _ h E s W _ H hL fun v σ₁ W₁ s₁ va h₁ e₁ x₁ H₁ V₁ => ?_) (he env)
  obtain ⟨p, od, rfl, I, hl, h2⟩ := chkM_ok H₁ V₁ h₁
  refine method_fn (od := some od) (X.FIn.keeps H₁.base) I hC.ga hC.gt hfi ht (by show (lookIn x od).map (·.isSome) = some false; rw [← hx, hl]; rfl) ?_
  refine callWith_of (by rw [hp env]; rfl) (keeps_K hk) (evalArgs_of (hp env) (hs pos env L hE A hA σ₁ _ h2 E s₁ W₁ _ H₁ (e₁ ▸ hL.stepE x₁) fun vs σ₂ W₂ s₂ as h₃ l₂ e₂ x₂ H₂ V₂ => ⟨X.FIn.keeps H₂.base, ?_⟩))
  exact hf.call (hA.weak hmn) (as := v :: vs) (vs := .ref p.1 :: as) (by simp [l₂]) h₃ H₂ (.cons (V₁.le x₂.le) V₂) (Co.step (e₂.trans e₁) (x₁.trans x₂))
end
structure ContS (X : Cx) (L : Addr) (s : Shared) (W : Wd) (kn kb kc : KS) (kr : K) (Q : Flow → Shared → Prop) : Prop where
  nx : ∀ σ' W' s', kn σ' = true → Step (· = L) s W s' W' → HRel X W' σ' s' → LRel X W' L σ'.lo s'.heap → Q .next s'
  br : ∀ σ' W' s', kb σ' = true → Step (· = L) s W s' W' → HRel X W' σ' s' → LRel X W' L σ'.lo s'.heap → Q .brk s'
  co : ∀ σ' W' s', kc σ' = true → Step (· = L) s W s' W' → HRel X W' σ' s' → LRel X W' L σ'.lo s'.heap → Q .cont s'
  re : ∀ v σ' W' s' a, kr v σ' = true → Step (· = L) s W s' W' → HRel X W' σ' s' → VR X W' v a → Q (.ret a) s'
theorem ContS.step {X : Cx} {L : Addr} {s s' : Shared} {W W' : Wd} {kn kb kc : KS} {kr : K} {Q : Flow → Shared → Prop} (C : ContS X L s W kn kb kc kr Q) (x : Step (· = L) s W s' W') : ContS X L s' W' kn kb kc kr Q :=
  ⟨fun _ _ _ h y => C.nx _ _ _ h (x.trans y), fun _ _ _ h y => C.br _ _ _ h (x.trans y), fun _ _ _ h y => C.co _ _ _ h (x.trans y), fun _ _ _ _ _ h y => C.re _ _ _ _ _ h (x.trans y)⟩
noncomputable def ContT (X : Cx) (L : Addr) (s : Shared) (W : Wd) (k : KS) (Q : Shared → Prop) : Prop := ∀ σ' W' s', k σ' = true → Step (· = L) s W s' W' → HRel X W' σ' s' → LRel X W' L σ'.lo s'.heap → Q s'
theorem ContT.step {X : Cx} {L : Addr} {s s' : Shared} {W W' : Wd} {k : KS} {Q : Shared → Prop} (C : ContT X L s W k Q) (x : Step (· = L) s W s' W') : ContT X L s' W' k Q := fun _ _ _ h y => C _ _ _ h (x.trans y)
section
variable (X : Cx) (n : Nat) (sc : List (Str × NameKind))
noncomputable def SimB (m : MX) (st : List Stmt) : Prop := ∀ (env : Env) (L : Addr), EnvOk X sc env L → ∀ (A : Around), Room n A → ∀ (σ : St) (kn kb kc : KS) (kr : K), m σ kn kb kc kr = true → ∀ (E : Value → Shared → Prop) (s : Shared) (W : Wd) (Q : Flow → Shared → Prop),
  HRel X W σ s → LRel X W L σ.lo s.heap → ContS X L s W kn kb kc kr Q → wpAny (model X.prog X.w) A (execs st env) Q E s
noncomputable def SimS (m : MX) (st : Stmt) : Prop := ∀ (env : Env) (L : Addr), EnvOk X sc env L → ∀ (A : Around), Room n A → ∀ (σ : St) (kn kb kc : KS) (kr : K), m σ kn kb kc kr = true → ∀ (E : Value → Shared → Prop) (s : Shared) (W : Wd) (Q : Flow → Shared → Prop),
  HRel X W σ s → LRel X W L σ.lo s.heap → ContS X L s W kn kb kc kr Q → wpAny (model X.prog X.w) A (exec st env) Q E s
noncomputable def SimG (t : MT) (e : Expr) : Prop := ∀ (env : Env) (L : Addr), EnvOk X sc env L → ∀ (A : Around), Room n A → ∀ (v : AV) (σ : St) (k : KS), t v σ k = true → ∀ (E : Value → Shared → Prop) (s : Shared) (W : Wd) (Q : Shared → Prop) (a : Value),
  HRel X W σ s → LRel X W L σ.lo s.heap → VR X W v a → ContT X L s W k Q → wpAny (model X.prog X.w) A (assign e env a) (fun _ => Q) E s
end
section
variable {X : Cx} {n : Nat} {sc : List (Str × NameKind)}
theorem SimB.nil : SimB X n sc done [] := by
  intro env L hE A hA σ kn kb kc kr h E s W Q H hL C
  exact wpAny_execs_nil (C.nx _ _ _ h (.refl ..) H hL)
theorem SimB.one {m : MX} {st : Stmt} (hm : SimS X n sc m st) : SimB X n sc m [st] := by
  intro env L hE A hA σ kn kb kc kr h E s W Q H hL C
  refine wpAny_execs_cons (hm env L hE A hA σ kn kb kc kr h E s W _ H hL ⟨fun σ' W' s' h' x' H' L' => wpAny_execs_nil (C.nx _ _ _ h' x' H' L'), C.br, C.co, C.re⟩)
theorem SimB.cons {a b : MX} {st : Stmt} {r : List Stmt} (ha : SimS X n sc a st) (hb : SimB X n sc b r) : SimB X n sc (sq a b) (st :: r) := by
  intro env L hE A hA σ kn kb kc kr h E s W Q H hL C
  refine wpAny_execs_cons (ha env L hE A hA σ _ kb kc kr h E s W _ H hL ⟨fun σ' W' s' h' x' H' L' => ?_, C.br, C.co, C.re⟩)
  exact hb env L hE A hA σ' kn kb kc kr h' E s' W' Q H' L' (C.step x')
theorem SimS.brk {pos : Pos} : SimS X n sc brk (.Break pos) := by
  intro env L hE A hA σ kn kb kc kr h E s W Q H hL C
  exact wpAny_Break (C.br _ _ _ h (.refl ..) H hL)
theorem SimS.cont {pos : Pos} : SimS X n sc cont (.Continue pos) := by
  intro env L hE A hA σ kn kb kc kr h E s W Q H hL C
  exact wpAny_Continue (C.co _ _ _ h (.refl ..) H hL)
theorem SimS.bad {st : Stmt} : SimS X n sc bad st := by
  intro env L hE A hA σ kn kb kc kr h E s W Q H hL C
  exact (nomatch (show false = true from h))
theorem SimS.ret {m : M} {e : Expr} {pos : Pos} (hm : SimE X n sc m e) : SimS X n sc (ret m) (.Return (some e) pos) := by
  intro env L hE A hA σ kn kb kc kr h E s W Q H hL C
  exact wpAny_Return_some (hm env L hE A hA σ kr h E s W _ H hL fun v σ' W' s' a h' e' x' H' V' => C.re _ _ _ _ _ h' x'.to H' V')
theorem SimS.ret0 {pos : Pos} : SimS X n sc (Mine.ret (cst .none)) (.Return Option.none pos) := by
  intro env L hE A hA σ kn kb kc kr h E s W Q H hL C
  exact wpAny_Return_none (C.re .none _ _ _ _ h (.refl ..) H rfl)
theorem SimS.expr {m : M} {e : Expr} {pos : Pos} (hs : ∀ env, swapsWith e none pos.line env = pure false) (hm : SimE X n sc m e) : SimS X n sc (expr m) (.Expr e pos) := by
  intro env L hE A hA σ kn kb kc kr h E s W Q H hL C
  refine wpAny_Expr_any (hm env L hE A hA σ _ h E s W _ H hL fun v σ' W' s' a h' e' x' H' V' => C.nx _ _ _ h' x'.to H' (e' ▸ hL.stepE x')) ?_ (hs env)
  unfold interactive
  rw [hE.kind]; rfl
theorem SimS.ite {t : MB} {a b : MX} {te : Expr} {x y : List Stmt} {pos : Pos} (ht : SimT X n sc t te) (ha : SimB X n sc a x) (hb : SimB X n sc b y) : SimS X n sc (ite t a b) (.If te x y pos) := by
  intro env L hE A hA σ kn kb kc kr h E s W Q H hL C
  refine wpAny_If (ht env L hE A hA σ _ h E s W _ H hL fun c σ₁ W₁ s₁ h₁ e₁ x₁ H₁ => ?_)
  have L₁ := e₁ ▸ hL.stepE x₁
  cases c with
  | true => exact ha env L hE A hA σ₁ kn kb kc kr h₁ E s₁ W₁ Q H₁ L₁ (C.step x₁.to)
  | false => exact hb env L hE A hA σ₁ kn kb kc kr h₁ E s₁ W₁ Q H₁ L₁ (C.step x₁.to)
theorem store_ok {x : Str} {i : Nat} (hx : X.nm i = x) (hl : sc.lookup x = some .local) {env : Env} {L : Addr} (hE : EnvOk X sc env L) {A : Around} {v : AV} {σ : St} {k : KS} (h : tname i v σ k = true) {E : Value → Shared → Prop} {s : Shared} {W : Wd} {Q : Shared → Prop} {a : Value}
    (H : HRel X W σ s) (hL : LRel X W L σ.lo s.heap) (V : VR X W v a) (C : ContT X L s W k Q) : wpAny (model X.prog X.w) A (storeName env x a) (fun _ => Q) E s := by
  obtain ⟨lo', h, e⟩ := lset_ok (l := σ.lo) h
  have h := setLo_ok h
  obtain ⟨m, hn, hf, ho, ho2⟩ := hL
  have hk : (env.scope.kind == .class || (env.scope.kind == .module && env.locals != env.globals)) = false := by rw [hE.kind]; rfl
  refine wpAny_storeName_local (by rw [Env.kindOf, hE.names]; exact hl) (hE.loc ▸ hn) (fun h' hn' hs' => ?_) hk
  rw [hE.loc] at hn' hs'
  have keep : ∀ b o, b ≠ L → s.heap.get? b = some o → h'.get? b = some o := fun b o q g => hs'.extBut b o q g
  have ownL : ∀ b, Own W b → b ≠ L := fun b hb q => ho (q ▸ hb)
  have ex : ∀ b, (s.heap.get? b).isSome = true → (h'.get? b).isSome = true := fun b hb => by
    by_cases q : b = L
    · subst q
      obtain ⟨o, _, _, g, _⟩ := hn'
      rw [g]; rfl
    · obtain ⟨o, g⟩ := Option.isSome_iff_exists.mp hb
      rw [keep b o q g]; rfl
  refine C ⟨σ.hp, σ.nx, lo', σ.ms⟩ W _ h ⟨.refl W, fun b o g _ q => keep b o q g, fun _ z => .inl z, ex, rfl⟩ ⟨fun b o g => ?_, H.nx, fun j p hp => ?_, H.inj, H.old, fun b hb => ex b (H.ex b hb), H.mask, H.gens⟩ ⟨_, hn', ?_, ho, ho2⟩
  · refine keep b o ?_ (H.base b o g)
    rintro rfl
    rw [ho2] at g; cases g
  · obtain ⟨o, h1, h2⟩ := H.obj j p hp
    have m1 : Own W p.1 := ⟨p, List.mem_of_getElem? hp, .inl rfl⟩
    have m2 : Own W p.2 := ⟨p, List.mem_of_getElem? hp, .inr rfl⟩
    exact ⟨o, h1, h2.at (.refl W) (fun o g => keep _ o (ownL _ m1) g) (fun o g => keep _ o (ownL _ m2) g)⟩
  · subst hx
    exact hf.set e V
end
end Mine
end
section
open PySem PySem.W PySem.Calls PyProof.Rows Builtin Builtin.ObjectAttr
namespace Mine
section
variable {M : Model} {A : Around} {E : Value → Shared → Prop} {s : Shared}
theorem nsSetZ {a : Addr} {m : Str → Option Value} {z : Nat} {name : Str} {v : Value} {Q : Unit → Shared → Prop} (hn : NsZ s.heap a m z)
    (hQ : ∀ h', NsZ h' a (fun x => if x = name then some v else m x) (z + if (m name).isSome = true then 0 else 1) → Heap.SameBut a s.heap h' → Q () { s with heap := h', toks := s.toks + 1 }) : wpAny M A (nsSet a name v) Q E s := by
  intro Γ p _
  obtain ⟨o, es, ep, ho, hd, hk, hm, hz⟩ := hn
  simp only [nsSet, strHash, Sem.wp_bind', Sem.wp_cmd_ask, Sem.wp_pure', Sem.wp_cmd_mkText]
  rw [Sem.wp_loadPart_of M Γ _ p { s with toks := s.toks + 1 } (o := o) _ ho]
  have hany : es.any (·.refKey) = false := by
    rw [Array.any_eq_false']; intro e he; obtain ⟨n, t, h⟩ := hk e he; simp [DictEntry.refKey, h]
  simp only [hd, aRefKeyMayBeTheName_eq, aRefKeyMayBeTheNameByArray, hany, Bool.and_false, Bool.false_eq_true, if_false, Sem.wp_cmd_updatePart]
  refine ⟨by rw [ho]; rfl, hQ _ ?_ (Heap.SameBut.update ..)⟩
  obtain ⟨c, d, dt, sl⟩ := o
  subst hd
  cases hi : es.findIdx? (·.key.isStr name) with
  | some i =>
    have hs : (m name).isSome = true := by
      rw [← hm]
      show (findBy (fun n v => v.isStr n) es name).isSome = true
      rw [findBy_of_findIdx?, hi]
      have := (Array.findIdx?_eq_some_iff_getElem.mp hi).1
      simp [this]
    refine ⟨_, _, ep, Heap.get?_update_self _ ho (by simp only [Obj.putName_eq, Obj.putNameByArray, hi]; rfl), by simp only [Obj.putName_eq, Obj.putNameByArray, hi]; rfl, hk.modify _ _, fun x => ?_, ?_⟩
    · show _ = if x = name then some v else m x
      rw [← hm]; exact findBy_modify (fun n v => v.isStr n) Value.isStr_inj es name x v i hi
    · have e0 : (if (m name).isSome = true then 0 else 1) = 0 := by rw [hs]; rfl
      rw [e0, Array.size_modify]; exact hz
  | none =>
    have hs : (m name).isSome = false := by
      rw [← hm]
      show (findBy (fun n v => v.isStr n) es name).isSome = false
      rw [findBy_of_findIdx?, hi]; rfl
    refine ⟨_, _, ep + 1, Heap.get?_update_self _ ho (by simp only [Obj.putName_eq, Obj.putNameByArray, hi]; rfl), by simp only [Obj.putName_eq, Obj.putNameByArray, hi]; rfl, hk.push _ _ _ _, fun x => ?_, ?_⟩
    · show _ = if x = name then some v else m x
      rw [← hm]
      exact findBy_push (fun n v => v.isStr n) es name x _ _ v (fun y => by
        show (name == y) = decide (y = name)
        by_cases h : y = name
        · subst h; simp
        · have : ¬ name = y := fun e => h e.symm
          simp [h, this]) hi
    · have e0 : (if (m name).isSome = true then 0 else 1) = 1 := by rw [hs]; rfl
      rw [e0, Array.size_push]; omega
end
section
variable {prog : Program} {w : World} {A : Around} {E : Value → Shared → Prop} {s : Shared} {K : Frag} {C x : Addr}
theorem setAttr_dict {od : Obj} {dx : Addr} {name : Str} {v : Value} {m : Str → Option Value} {z : Nat} {Q : Unit → Shared → Prop} (X : K.In s.heap) (I : PySem.W.InstAt s.heap x (instObj C dx) C (some od))
    (hs : findIn K (.ref C) "__setattr__" = some (some (.builtin "object.__setattr__"))) (hp : plainOver K C = true) (ht : takerIn K C name = some none) (hc : ∃ cd, clsIn K C = some cd ∧ cd.hasDict = true)
    (hn : NsZ s.heap dx m z) (hz : z ≤ 1000)
    (h : ∀ h', NsZ h' dx (fun y => if y = name then some v else m y) (z + if (m name).isSome = true then 0 else 1) → Heap.SameBut dx s.heap h' → Q () { s with heap := h', toks := s.toks + 1 + 1 }) :
    wpAny (model prog w) A (setAttr (.ref x) name v) Q E s := by
  refine set_plain X I hs ?_
  refine osa_open (r := none) (s := { s with toks := s.toks + 1 }) X I hp ht fun b => ?_
  obtain ⟨cd, hc, hd'⟩ := hc
  obtain ⟨hx, hcl, hno, -⟩ := I
  refine wpAny_bind (wpAny_pure (wpAny_bind (wpAny_bind (wpAny_loadPart hx (wpAny_bind (looks_clsIn X hc _ _ _ _ (fun _ _ e => e) ?_))))))
  rw [hd']
  refine wpAny_pure (a := some dx) (wpAny_bind (wpAny_pure (wpAny_bind ?_)))
  refine nsSetZ hn fun h' hn' hs' => ?_
  obtain ⟨o', es', ep', g', d', k', m', z'⟩ := id hn'
  refine wpAny_bind (wpAny_lookBehind g' (by rw [d']; refine pastItsLine_dict ?_; have := sizeLine_ge; split at z' <;> omega) ?_)
  exact wpAny_pure (h h' hn' hs')
end
end Mine
end
section
open PySem PySem.W PySem.Calls PyProof.Rows
namespace Mine
section
variable {X : Cx} {n : Nat} {sc : List (Str × NameKind)}
theorem subTail {A : Around} {E : Value → Shared → Prop} {s : Shared} {value slice : Expr} {o i : Value} {T id : String} {Q : Value → Shared → Prop} (hT : s.TypeIs o T)
    (hl : typeLookup (.type T) "__getitem__" = pure (some (.builtin id))) (hs : subscripted slice false o i = operate [o, i] (getItem o i)) (h : wpAny (model X.prog X.w) A (getItem o i) Q E s) :
    wpAny (model X.prog X.w) A (subscriptTail value slice o i) Q E s := by
  unfold subscriptTail
  refine wpAny_bind ?_
  rw [getitemInPython_of_ne hT.not_modules]
  refine wpAny_bind (wpAny_specialOf hT hl ?_)
  have fin : wpAny (model X.prog X.w) A (subscripted slice false o i) (fun r s₃ => wpAny (model X.prog X.w) A (letTemporaryGo value o r >>= fun _ => pure r) Q E s₃) E s := by
    rw [hs]
    exact wpAny_operating (wpAny_mono h (fun r s₃ h₃ => wpAny_bind (wpAny_letTemporaryGo (wpAny_pure h₃))) fun _ _ x => x)
  first
    | exact wpAny_pure (wpAny_bind fin)
    | exact wpAny_bind (wpAny_pure (wpAny_bind fin))
    | exact wpAny_bind fin
theorem idx_ok {A : Around} {E : Value → Shared → Prop} {s : Shared} {value slice : Expr} {W : Wd} {σ : St} {a b : AV} {va vb : Value} {k : K} {Q : Value → Shared → Prop} (hs : ∀ o i, subscripted slice false o i = operate [o, i] (getItem o i))
    (H : HRel X W σ s) (Va : VR X W a va) (Vb : VR X W b vb) (h : idxV a b σ k = true) (C : Cont X σ s W k Q) : wpAny (model X.prog X.w) A (subscriptTail value slice va vb) Q E s := by
  obtain ⟨j, rfl, h1⟩ := onOwn_ok h
  obtain ⟨x, t, σ', rfl, h2, e, H'⟩ := con_ok H Vb h1
  obtain ⟨p, o, hp, rfl, ho, ro, h3⟩ := own_obj H' Va h2
  have C' := C.step e.lo (.refl ..)
  cases o <;> try exact (nomatch (show false = true from h3))
  · rename_i xs
    obtain ⟨l1, vs, n1, g1, V1⟩ := ro
    cases x with
    | negSucc m => exact (nomatch (show false = true from h3))
    | ofNat m =>
      obtain ⟨u, hu, h4⟩ := nth_ok (show nth xs m (kV k σ') = true from h3)
      obtain ⟨v, hv, V⟩ := All2.get V1 hu
      have hm : m < xs.length := (List.getElem?_eq_some_iff.mp hu).1
      have hb : (m : Int) < 2 ^ 63 := by omega
      refine subTail ⟨_, g1, rfl⟩ PySem.F.slot_list_getitem.lookup (hs _ _) (wpAny_getItem_list (x := v) ⟨_, g1, rfl, _, rfl⟩ (Int.natCast_nonneg m) hb ?_ (C' _ _ _ _ _ h4 rfl (.refl ..) H' V))
      show vs.toArray[m]? = some v
      simpa using hv
  · rename_i xs
    obtain ⟨l1, vs, n1, g1, V1⟩ := ro
    obtain ⟨m, rfl, h4⟩ := natOf_ok (show natOf x (fun n => nth xs n (kV k σ')) = true from h3)
    obtain ⟨u, hu, h5⟩ := nth_ok h4
    obtain ⟨v, hv, V⟩ := All2.get V1 hu
    have hm : m < xs.length := (List.getElem?_eq_some_iff.mp hu).1
    have hb : (m : Int) < 2 ^ 63 := by omega
    have hm' : m < vs.toArray.size := by rw [List.size_toArray, V1.length]; exact hm
    refine subTail ⟨_, g1, rfl⟩ PySem.F.slot_tuple_getitem.lookup (hs _ _) (P.getItem_tuple (k := m) (y := v) g1 (by omega) hb ?_ ?_ (C' _ _ _ _ _ h5 rfl (.refl ..) H' V))
    · unfold seqIndex?
      have : ¬ ((m : Int) < 0) := by omega
      simp [this]
      simpa using hm'
    · simpa using hv
  · rename_i es
    obtain ⟨l1, kvs, D, R⟩ := ro
    rcases dget_ok R (show dget es x (kV k σ') (fun _ => false) = true from h3) with ⟨u, v, ev, V, h4⟩ | ⟨_, h4⟩
    · exact subTail D.typeIs slot_dict_getitem.lookup (hs _ _) (wpAny_getItem_of (isInt_int x t) D.mapOf ev (C' _ _ _ _ _ h4 rfl (Step.toks _) (H'.toks _) V))
    · cases h4
theorem SimE.sub {a b : M} {l r : Expr} {pos : Pos} (hs : ∀ o i, subscripted r false o i = operate [o, i] (getItem o i)) (ha : SimE X n sc a l) (hb : SimE X n sc b r) : SimE X n sc (Mine.bin idxV a b) (.Subscript l r pos) := by
  intro env L hE A hA σ k h E s W Q H hL C
  refine Subscript_ (ha env L hE A hA σ _ h E s W _ H hL fun v σ₁ W₁ s₁ va h₁ e₁ x₁ H₁ V₁ => ?_)
  refine hb env L hE A hA σ₁ _ h₁ E s₁ W₁ _ H₁ (e₁ ▸ hL.stepE x₁) fun u σ₂ W₂ s₂ vb h₂ e₂ x₂ H₂ V₂ => ?_
  exact idx_ok hs H₂ (V₁.le x₂.le) V₂ h₂ (C.step (e₂.trans e₁) (x₁.trans x₂))
theorem fcap_ok : ∀ {fs : FL} {m : Nat} {b : Bool}, fcap fs m b = true → fs.count ≤ m ∧ b = true
  | .nil, m, b, h => ⟨Nat.zero_le _, h⟩
  | .cons y v r, 0, b, h => (nomatch (show false = true from h))
  | .cons y v r, m + 1, b, h => by
    obtain ⟨h1, h2⟩ := fcap_ok (fs := r) (m := m) h
    exact ⟨Nat.succ_le_succ h1, h2⟩
theorem LRel.lo' {W : Wd} {L : Addr} {σ σ' : St} {s s' : Shared} {W' : Wd} (hL : LRel X W L σ.lo s.heap) (x : StepE s W s' W') (e : σ'.lo = σ.lo) : LRel X W' L σ'.lo s'.heap := e ▸ hL.stepE x
theorem SimG.name {x : Str} {i : Nat} {pos : Pos} (hx : X.nm i = x) (hl : sc.lookup x = some .local) : SimG X n sc (tname i) (.Name x pos) := by
  intro env L hE A hA v σ k h E s W Q a H hL V C
  exact wpAny_assign_Name (store_ok hx hl hE h H hL V C)
theorem SimG.attr {C a : Nat} {m : M} {oe : Expr} {x : Str} {pos : Pos} (hC : ClsOk X C) (hx : X.nm a = x) (ht : takerIn X.F (X.cls C) x = some none) (hm : SimE X n sc m oe) : SimG X n sc (tattr C m a) (.Attribute oe x pos) := by
  intro env L hE A hA v σ k h E s W Q va H hL V Co
  rw [assign_Attribute]
  refine wpAny_bind (wpAny_holding (hm env L hE A hA σ _ h E s W _ H hL fun ov σ₁ W₁ s₁ vo h₁ e₁ x₁ H₁ V₁ => wpAny_bind (wpAny_standAt (wpAny_bind (wpAny_holding ?_)))))
  obtain ⟨i, rfl, h2⟩ := onOwn_ok h₁
  obtain ⟨p, o, hp, rfl, ho, ro, h3⟩ := own_obj H₁ V₁ h2
  obtain ⟨D, fs, rfl, h4⟩ := onInst_ok h3
  obtain ⟨rfl, h5⟩ := beqC h4
  obtain ⟨fs', h6, ef, hc⟩ := lset_count h5
  obtain ⟨h7, h8⟩ := fcap_ok h6
  obtain ⟨hp2, e, h9⟩ := upd_ok h8
  obtain ⟨od, mm, hfr, I, hl⟩ := inst_at ro
  obtain ⟨dne, gi, m₂, hn, hf⟩ := id ro
  have hcnt : fs.count ≤ 1000 := by rw [hc] at h7; omega
  refine setAttr_dict (X.FIn.keeps H₁.base) I hC.st hC.over ht hC.cls hn hcnt fun h' hn' hs' => ?_
  have g2 : h'.get? p.1 = some (instObj (X.cls C) p.2) := hs'.extBut _ _ dne gi
  have zz : (if (m₂ x).isSome = true then 0 else 1) = if (fs.at a).isSome = true then 0 else 1 := by
    have := hf a
    rw [hx] at this
    revert this
    cases fs.at a with
    | none => intro q; rw [q]; rfl
    | some u => rintro ⟨v, q, _⟩; rw [q]; rfl
  have hn2 : NsZ h' p.2 (fun y => if y = x then some va else m₂ y) fs'.count := by rw [hc, ← zz]; exact hn'
  obtain ⟨H', S'⟩ := H₁.upd (h' := h') (t := s₁.toks + 1 + 1) (o := .inst C fs') (hp := hp2) hp (fun b n1 n2 => hs'.2 b n2) (by rw [g2]; rfl) (by obtain ⟨o', _, _, g', _⟩ := hn2; rw [g']; rfl)
    ⟨dne, g2, _, hn2, by subst hx; exact hf.set ef (V.le x₁.le)⟩ e
  refine fun Γ pp hΓ => ?_
  simp only [Sem.wp_release]
  exact Co _ _ _ h9 (StepE.to (x₁.trans S')) H' (LRel.lo' hL (x₁.trans S') e₁)
end
section
variable {X : Cx} {n : Nat} {sc : List (Str × NameKind)}
theorem set_plain {prog : Program} {w : World} {A : Around} {E : Value → Shared → Prop} {s : Shared} {l : Addr} {items : Array Value} {z : Nat} {k : Int} {t : Tok} {v : Value} {Q : Unit → Shared → Prop} (g : s.heap.get? l = some { cls := .type "list", dict := none, data := .seq items z, slots := #[] })
    (h0 : 0 ≤ k) (hfit : k < 2 ^ 63) (hn : k < items.size) (hz : items.size ≤ sizeLine)
    (hQ : ∀ h' z', h'.get? l = some { cls := .type "list", dict := none, data := .seq (items.setIfInBounds k.toNat v) z', slots := #[] } → Heap.SameBut l s.heap h' → Q () { s with heap := h' }) : wpAny (model prog w) A (setItem (.ref l) (.int k t) v) Q E s := by
  have hT : s.TypeIs (.ref l) "list" := ⟨_, g, rfl⟩
  unfold setItem
  try with_reducible refine wpAny_holding ?_
  first | refine wpAny_bind (wpAny_pure ?_) | skip
  refine wpAny_bind (wpAny_sequenceKey hT (by decide) ?_)
  refine wpAny_bind (wpAny_callSpecial?_slot (name := Str.ofString "__setitem__") hT slot_list_setitem (wpAny_call_entry slot_list_setitem hT entry_list_setitem ?_ (args_list_setitem _ _ _)))
  show wpAny _ _ (Builtin.List.listSubscript? (.int k t) >>= _) _ _ s
  refine wpAny_bind (wpAny_listSubscript_int (fitsIndex_of h0 hfit) ?_)
  clear hfit
  obtain ⟨j, rfl⟩ := Int.eq_ofNat_of_zero_le h0
  have hj : j < items.size := by omega
  have hx' : items[j]? = some items[j] := Array.getElem?_eq_getElem hj
  show wpAny _ _ ((seqItemAt l j >>= fun r => pure (r.map (j, ·))) >>= _) _ _ s
  refine wpAny_bind (wpAny_bind (wpAny_seqItemAt g rfl (wpAny_pure ?_)))
  rw [hx']
  show wpAny _ _ (setSeqItemAt l j v >>= _) _ _ s
  have hg : ∃ z', (s.heap.update l (Obj.mapSeq (·.setIfInBounds j v))).get? l = some { cls := .type "list", dict := none, data := .seq (items.setIfInBounds j v) z', slots := #[] } := ⟨_, Heap.get?_update_self (Obj.mapSeq (·.setIfInBounds j v)) g rfl⟩
  obtain ⟨z', hg⟩ := hg
  refine wpAny_bind (wpAny_setSeqItemAt g rfl ?_)
  first
    | exact wpAny_bind (wpAny_pure (wpAny_pure ⟨.none, rfl, wpAny_pure (hQ _ z' hg (Heap.SameBut.update ..))⟩))
    | exact wpAny_pure ⟨.none, rfl, wpAny_pure (hQ _ z' hg (Heap.SameBut.update ..))⟩
theorem SimG.sub {o i : M} {oe ie : Expr} {pos : Pos} (ho : SimE X n sc o oe) (hi : SimE X n sc i ie) : SimG X n sc (tsub o i) (.Subscript oe ie pos) := by
  intro env L hE A hA v σ k h E s W Q va H hL V Co
  rw [assign_Subscript]
  refine wpAny_bind (wpAny_holding (ho env L hE A hA σ _ h E s W _ H hL fun ov σ₁ W₁ s₁ vo h₁ e₁ x₁ H₁ V₁ => ?_))
  refine wpAny_bind (wpAny_holding (hi env L hE A hA σ₁ _ h₁ E s₁ W₁ _ H₁ (hL.lo' x₁ e₁) fun iv σ₂ W₂ s₂ vi h₂ e₂ x₂ H₂ V₂ => ?_))
  refine wpAny_bind (wpAny_standAt (wpAny_bind (wpAny_holding ?_)))
  have V₁ := V₁.le x₂.le
  obtain ⟨j, rfl, h3⟩ := onOwn_ok h₂
  obtain ⟨x, t, σ₃, rfl, h4, e₃, H₃⟩ := con_ok H₂ V₂ h3
  obtain ⟨p, o, hp, rfl, ho', ro, h5⟩ := own_obj H₃ V₁ h4
  have V' := V.le (x₁.le.trans x₂.le)
  cases o <;> try exact (nomatch (show false = true from h5))
  · rename_i ys
    have h5 : natOf x (fun n => setNth ys n v fun zs => upd σ₃ j (.list zs) k) = true := h5
    obtain ⟨q, rfl, h6⟩ := natOf_ok h5
    obtain ⟨hq, h7⟩ := setNth_ok h6
    obtain ⟨hp2, e, h8⟩ := upd_ok h7
    obtain ⟨l1, vs, z, g, R⟩ := ro
    have zl := sizeLine_ge
    refine set_plain g (Int.natCast_nonneg q) (by omega) (by rw [List.size_toArray, R.length]; omega) (by rw [List.size_toArray, R.length]; omega) fun h' z' g' hs' => ?_
    rw [Int.toNat_natCast] at g'
    have x2 : (h'.get? p.2).isSome = true := by
      by_cases r : p.2 = p.1
      · rw [r, g']; rfl
      · rw [hs'.2 _ r]; exact H₃.ex _ ⟨p, List.mem_of_getElem? hp, .inr rfl⟩
    obtain ⟨H', S'⟩ := H₃.upd (h' := h') (t := s₂.toks) (o := .list (ys.set q v)) (hp := hp2) hp (fun b n1 n2 => hs'.2 b n1) (by rw [g']; rfl) x2 ⟨by rw [List.length_set]; exact l1, vs.set q va, z', by rw [g']; simp, R.set V'⟩ e
    refine fun Γ pp hΓ => ?_
    simp only [Sem.wp_release]
    have x3 := (x₁.trans x₂).trans S'
    exact Co _ _ _ h8 (StepE.to x3) H' (LRel.lo' hL x3 ((e₃.lo.trans e₂).trans e₁))
  rename_i es
  obtain ⟨l1, kvs, D, R⟩ := ro
  obtain ⟨ob, es0, ep, g0, ex0, hd0, hk0, hP0, hnd⟩ := id D
  obtain ⟨es', h6, R'⟩ := dset_ok V' R hnd h5
  obtain ⟨hz, h7⟩ := cap_ok h6
  obtain ⟨hp2, e, h8⟩ := upd_ok h7
  refine wpAny_setItem_pairs (isInt_int x t) D (fun h' D' hs' => ?_) (by rw [R.length]; have := sizeLine_ge; omega)
  have g' : (h'.get? p.1).isSome = true := by obtain ⟨o', _, _, g', _⟩ := D'; rw [g']; rfl
  have x2 : (h'.get? p.2).isSome = true := by
    by_cases q : p.2 = p.1
    · rw [q]; exact g'
    · rw [hs'.2 _ q]; exact H₃.ex _ ⟨p, List.mem_of_getElem? hp, .inr rfl⟩
  obtain ⟨H', S'⟩ := H₃.upd (h' := h') (t := s₂.toks + 1) (o := .dict es') (hp := hp2) hp (fun b n1 n2 => hs'.2 b n1) g' x2 ⟨hz, _, D', R'⟩ e
  refine fun Γ pp hΓ => ?_
  simp only [Sem.wp_release]
  have x3 := (x₁.trans x₂).trans S'
  exact Co _ _ _ h8 (StepE.to x3) H' (LRel.lo' hL x3 ((e₃.lo.trans e₂).trans e₁))
theorem sameLen_ok : ∀ {ts : List MT} {xs : List AV} {b : Bool}, sameLen ts xs b = true → ts.length = xs.length ∧ b = true
  | [], [], b, h => ⟨rfl, h⟩
  | [], _ :: _, b, h => (nomatch (show false = true from h))
  | _ :: _, [], b, h => (nomatch (show false = true from h))
  | _ :: ts, _ :: xs, b, h => by
    obtain ⟨h1, h2⟩ := sameLen_ok (ts := ts) (xs := xs) h
    exact ⟨by simp [h1], h2⟩
theorem asgs_ok {env : Env} {L : Addr} (hE : EnvOk X sc env L) {A : Around} (hA : Room n A) {E : Value → Shared → Prop} : ∀ {ts : List MT} {es : List Expr} {xs : List AV} {vs : List Value} {σ : St} {k : KS} {s : Shared} {W : Wd} {Q : Shared → Prop},
    All2 (SimG X n sc) ts es → asgs ts xs σ k = true → VRs X W xs vs → HRel X W σ s → LRel X W L σ.lo s.heap → ContT X L s W k Q → wpAny (model X.prog X.w) A (assignInOrder (es.map fun e => assign e env) vs) (fun _ => Q) E s
  | _, _, _, _, σ, k, s, W, Q, .nil, h, .nil, H, hL, C => wpAny_pure (C _ _ _ h (.refl ..) H hL)
  | _, _, _, _, σ, k, s, W, Q, .nil, h, .cons _ _, H, hL, C => (nomatch (show false = true from h))
  | _, _, _, _, σ, k, s, W, Q, .cons _ _, h, .nil, H, hL, C => (nomatch (show false = true from h))
  | t :: ts, e :: es, x :: xs, v :: vs, σ, k, s, W, Q, .cons T Ts, h, .cons V Vs, H, hL, C => by
    have h : t x σ (fun σ => asgs ts xs σ k) = true := h
    show wpAny (model X.prog X.w) A (holding vs (assign e env v) >>= fun _ => assignInOrder (es.map fun e => assign e env) vs) _ E s
    refine wpAny_bind (wpAny_holding (T env L hE A hA x σ _ h E s W _ v H hL V fun σ₁ W₁ s₁ h₁ x₁ H₁ L₁ => ?_))
    exact asgs_ok hE hA Ts h₁ (VRs.le x₁.le Vs) H₁ L₁ (C.step x₁)
theorem extBut_grow {s : Shared} {h' : Heap} (k : Heap.ExtBut s.heap.objs.size s.heap h') : ∀ b o, s.heap.get? b = some o → h'.get? b = some o := fun b o g => k b o (Nat.ne_of_lt (Heap.lt_size g)) g
theorem SimG.tup {ts : List MT} {es : List Expr} {k : Nat} {pos : Pos} (he : ∀ env, assignEach es env = es.map fun e => (false, assign e env)) (hs : All2 (SimG X n sc) ts es) : SimG X n sc (ttup ts) (.Tuple es k pos) := by
  intro env L hE A hA v σ k h E s W Q va H hL V C
  obtain ⟨i, rfl, h1⟩ := onOwn_ok h
  obtain ⟨p, o, hp, rfl, ho, ro, h2⟩ := own_obj H V h1
  obtain ⟨xs, rfl, h3⟩ := onTup_ok h2
  obtain ⟨hl, h4⟩ := sameLen_ok h3
  obtain ⟨l1, vs, n1, g1, V1⟩ := ro
  have hl2 := hs.length
  refine PySem.wpAny_assign_Tuple hA.hand ⟨_, g1, rfl, _, rfl⟩ ?_ ?_ fun h' k' => ?_
  · rw [he, List.length_map, List.size_toArray, V1.length, ← hl, hl2]
  · rw [he, List.findIdx?_eq_none_iff]
    intro x hx
    obtain ⟨e, _, rfl⟩ := List.mem_map.mp hx
    rfl
  · rw [he, List.map_map]
    obtain ⟨H', S'⟩ := H.grow (extBut_grow k') s.toks
    show wpAny (model X.prog X.w) A (assignInOrder (es.map fun e => assign e env) vs) (fun _ => Q) E _
    exact asgs_ok hE hA hs h4 V1 H' (hL.stepE S') (C.step (StepE.to S'))
theorem SimS.asgName {m : M} {e : Expr} {x : Str} {i : Nat} {pos' pos : Pos} (hx : X.nm i = x) (hl : sc.lookup x = some .local) (hs : ∀ env, swapsWith e (some (.Name x pos')) pos.line env = pure false) (hm : SimE X n sc m e) : SimS X n sc (asg (tname i) m) (.Assign [.Name x pos'] e pos) := by
  intro env L hE A hA σ kn kb kc kr h E s W Q H hL C
  refine wpAny_Assign_Name (hm env L hE A hA σ _ h E s W _ H hL fun v σ' W' s' a h' e' x' H' V' => ?_) (hs env)
  exact store_ok hx hl hE (Q := Q .next) h' H' (hL.lo' x' e') V' fun σ₂ W₂ s₂ h₂ x₂ H₂ L₂ => C.nx _ _ _ h₂ ((StepE.to x').trans x₂) H₂ L₂
theorem SimS.asg {m : M} {e te : Expr} {t : MT} {pos : Pos} (hs : ∀ env, swapsWithSole [te] e pos.line env = pure false) (hw : ∀ env, swappedStores [te] e env = pure none) (he : ∀ env, assignEach [te] env = [(false, assign te env)]) (ht : SimG X n sc t te) (hm : SimE X n sc m e) :
    SimS X n sc (asg t m) (.Assign [te] e pos) := by
  intro env L hE A hA σ kn kb kc kr h E s W Q H hL C
  refine wpAny_Assign_stores (hm env L hE A hA σ _ h E s W _ H hL fun v σ' W' s' a h' e' x' H' V' => ?_) (hs env) (hw env)
  rw [he]
  show wpAny (model X.prog X.w) A (assign te env a) _ E s'
  exact ht env L hE A hA v σ' kn h' E s' W' (Q .next) a H' (hL.lo' x' e') V' fun σ₂ W₂ s₂ h₂ x₂ H₂ L₂ => C.nx _ _ _ h₂ ((StepE.to x').trans x₂) H₂ L₂
theorem revA_eq : ∀ (l acc : List AV), revA l acc = l.reverse ++ acc
  | [], acc => rfl
  | x :: r, acc => by
    show revA r (x :: acc) = _
    rw [revA_eq r]; simp
theorem All2.reverse {α β : Type} {R : α → β → Prop} : ∀ {l : List α} {l' : List β}, All2 R l l' → All2 R l.reverse l'.reverse
  | _, _, .nil => .nil
  | _, _, .cons x y => by rw [List.reverse_cons, List.reverse_cons]; exact y.reverse.append (.cons x .nil)
theorem names_ok {env : Env} {L : Addr} (hE : EnvOk X sc env L) {A : Around} {E : Value → Shared → Prop} : ∀ {ps : List (Nat × Str)} {xs : List AV} {vs : List Value} {σ : St} {k : KS} {s : Shared} {W : Wd} {Q : Shared → Prop},
    (∀ p ∈ ps, X.nm p.1 = p.2 ∧ sc.lookup p.2 = some .local) → asgs (ps.map fun p => tname p.1) xs σ k = true → VRs X W xs vs → HRel X W σ s → LRel X W L σ.lo s.heap → ContT X L s W k Q →
    wpAny (model X.prog X.w) A (assignInOrder (ps.map fun p => bindName env p.2) vs) (fun _ => Q) E s
  | [], _, _, σ, k, s, W, Q, hp, h, .nil, H, hL, C => wpAny_pure (C _ _ _ h (.refl ..) H hL)
  | [], _, _, σ, k, s, W, Q, hp, h, .cons _ _, H, hL, C => (nomatch (show false = true from h))
  | _ :: _, _, _, σ, k, s, W, Q, hp, h, .nil, H, hL, C => (nomatch (show false = true from h))
  | p :: ps, x :: xs, v :: vs, σ, k, s, W, Q, hp, h, .cons V Vs, H, hL, C => by
    have h : tname p.1 x σ (fun σ => asgs (ps.map fun p => tname p.1) xs σ k) = true := h
    show wpAny (model X.prog X.w) A (holding vs (bindName env p.2 v) >>= fun _ => assignInOrder (ps.map fun p => bindName env p.2) vs) _ E s
    obtain ⟨a, b⟩ := hp p (by simp)
    refine wpAny_bind (wpAny_holding (wpAny_bindName (store_ok a b hE h H hL V fun σ₁ W₁ s₁ h₁ x₁ H₁ L₁ => ?_)))
    exact names_ok hE (fun q hq => hp q (by simp [hq])) h₁ (VRs.le x₁.le Vs) H₁ L₁ (C.step x₁)
theorem SimS.asgR {m : M} {e : Expr} {ns : List (Nat × Str)} {elts : List Expr} {k : Nat} {tpos pos : Pos} (hn : ∀ p ∈ ns, X.nm p.1 = p.2 ∧ sc.lookup p.2 = some .local) (hs : ∀ env, swapsWithSole [.Tuple elts k tpos] e pos.line env = pure false)
    (hw : ∀ (env : Env) (L : Addr), EnvOk X sc env L → swappedStores [.Tuple elts k tpos] e env = pure (some (ns.map (·.2)))) (hm : SimE X n sc m e) : SimS X n sc (Mine.asg (ttupR (ns.reverse.map fun p => tname p.1)) m) (.Assign [.Tuple elts k tpos] e pos) := by
  intro env L hE A hA σ kn kb kc kr h E s W Q H hL C
  refine Assign_Tuple_swapped (names := ns.map (·.2)) (hm env L hE A hA σ _ h E s W _ H hL fun v σ' W' s' a h' e' x' H' V' => ?_) (hs env) (hw env L hE)
  obtain ⟨i, rfl, h1⟩ := onOwn_ok h'
  obtain ⟨p, o, hp, rfl, ho, ro, h2⟩ := own_obj H' V' h1
  obtain ⟨xs, rfl, h3⟩ := onTup_ok h2
  obtain ⟨hl, h4⟩ := sameLen_ok h3
  obtain ⟨l1, vs, n1, g1, V1⟩ := ro
  have hz : (ns.map (·.2)).length = vs.toArray.size := by
    rw [List.length_map, List.length_reverse] at hl
    rw [List.length_map, List.size_toArray, V1.length, hl]
  rw [hz]
  refine wpAny_unpackItems_tuple hA.hand ⟨_, g1, rfl, _, rfl⟩ fun h'' k' => ?_
  obtain ⟨H'', S''⟩ := H'.grow (extBut_grow k') s'.toks
  have e1 : ((ns.map (·.2)).reverse.map fun n => bindName env n) = ns.reverse.map fun p => bindName env p.2 := by rw [← List.map_reverse, List.map_map]; rfl
  rw [e1]
  rw [revA_eq, List.append_nil] at h4
  have e2 : vs.toArray.toList = vs := by simp
  rw [e2]
  exact names_ok hE (Q := Q .next) (fun q hq => hn q (by simpa using hq)) h4 V1.reverse H'' (hL.lo' (x'.trans S'') e') fun σ₂ W₂ s₂ h₂ x₂ H₂ L₂ => C.nx _ _ _ h₂ ((StepE.to (x'.trans S'')).trans x₂) H₂ L₂
end
noncomputable def zipFL : List Nat → List AV → FL
  | p :: ps, a :: as => .cons p a (zipFL ps as)
  | _, _ => .nil
theorem bind_ok : ∀ {ps : List Nat} {as ds : List AV} {k : FL → Bool}, bind ps as ds k = true → k (zipFL ps (as ++ ds)) = true ∧ as.length ≤ ps.length ∧ ps.length ≤ as.length + ds.length
  | [], [], ds, k, h => ⟨by unfold zipFL; exact h, by simp, by simp⟩
  | [], _ :: _, ds, k, h => (nomatch (show false = true from h))
  | p :: ps, [], [], k, h => (nomatch (show false = true from h))
  | p :: ps, [], d :: ds, k, h => by
    obtain ⟨h1, h2, h3⟩ := bind_ok (ps := ps) (as := []) (ds := ds) (k := fun r => k (.cons p d r)) h
    exact ⟨h1, by simp, by simp at h3 ⊢; omega⟩
  | p :: ps, a :: as, ds, k, h => by
    obtain ⟨h1, h2, h3⟩ := bind_ok (ps := ps) (as := as) (ds := ds) (k := fun r => k (.cons p a r)) h
    exact ⟨h1, by simp; omega, by simp; omega⟩
theorem lookup_append' {α β : Type} [BEq α] : ∀ {l r : List (α × β)} {x : α}, (l ++ r).lookup x = (l.lookup x).or (r.lookup x)
  | [], r, x => by simp
  | (a, b) :: l, r, x => by
    rw [List.cons_append, List.lookup_cons, List.lookup_cons]
    cases x == a with
    | true => simp
    | false => exact lookup_append' (l := l)
theorem zip_rel {X : Cx} {W : Wd} : ∀ {ps : List Nat} {as : List AV} {vs : List Value}, ps.Nodup → VRs X W as vs → FR X W (zipFL ps as) (fun x => ((ps.map X.nm).zip vs).reverse.lookup x)
  | [], as, vs, _, h => fun x => by simp [zipFL, FL.at]
  | p :: ps, _, _, _, .nil => fun x => by simp [zipFL, FL.at]
  | p :: ps, a :: as, v :: vs, hn, .cons V Vs => fun x => by
    rw [List.nodup_cons] at hn
    have ih := zip_rel hn.2 Vs x
    have e : (((p :: ps).map X.nm).zip (v :: vs)).reverse.lookup (X.nm x) = ((((ps.map X.nm).zip vs).reverse.lookup (X.nm x)).or (if x = p then some v else none)) := by
      rw [List.map_cons, List.zip_cons_cons, List.reverse_cons, lookup_append', List.lookup_cons, List.lookup_nil]
      by_cases q : x = p
      · subst q; simp
      · have : (X.nm x == X.nm p) = false := by rw [beq_eq_false_iff_ne]; exact fun z => q (X.nmi _ _ z)
        rw [this, if_neg q]
    have h0 : ∀ {ps : List Nat} {as : List AV}, p ∉ ps → (zipFL ps as).at p = none := by
      intro ps
      induction ps with
      | nil => intro as _; simp [zipFL, FL.at]
      | cons q r ih =>
        intro as hq
        cases as with
        | nil => simp [zipFL, FL.at]
        | cons b as =>
          rw [List.mem_cons, not_or] at hq
          rw [zipFL, FL.at, if_neg hq.1]
          exact ih hq.2
    dsimp only at ih ⊢
    rw [e, zipFL, FL.at]
    by_cases q : x = p
    · subst q
      rw [if_pos rfl]
      rw [h0 hn.1] at ih
      dsimp only at ih
      exact ⟨v, by rw [ih, if_pos rfl]; rfl, V⟩
    · rw [if_neg q, if_neg q, Option.or_none]
      exact ih
section
variable {X : Cx} {n : Nat}
theorem call_step {s s' : Shared} {W W' : Wd} {h₀ : Heap} {t : Nat} (hk0 : ∀ b o, s.heap.get? b = some o → h₀.get? b = some o) (x' : Step (· = s.heap.objs.size) { s with heap := h₀, toks := t } W s' W') : StepE s W s' W' where
  le := x'.le
  keep := fun b o g n1 _ => x'.keep b o (hk0 b o g) n1 fun q => by rw [q, fresh_none] at g; cases g
  own := fun b hb => by
    rcases x'.own b hb with z | z
    · exact .inl z
    · refine .inr ?_
      cases q : s.heap.get? b with
      | none => rfl
      | some o =>
        have := hk0 _ _ q
        rw [show h₀.get? b = none from z] at this
        cases this
  stay := fun b hb => x'.stay b (by
    obtain ⟨o, g⟩ := Option.isSome_iff_exists.mp hb
    show (h₀.get? b).isSome = true
    rw [hk0 _ _ g]; rfl)
  os := x'.os
theorem kBack_ok {lo : FL} {k : K} {v : AV} {σ : St} (h : kBack lo k v σ = true) : k v ⟨σ.hp, σ.nx, lo, σ.ms⟩ = true := setLo_ok h
theorem FnSim.mk {ps : List Nat} {ds : List AV} {dv : List Value} {body : MX} {a : Addr} {o : Obj} {fd : FuncData} {stmts : List Stmt} {N : Nat} (ho : X.F.lookup a = some o) (hd : o.data = .func fd) (hb : fd.body = .stmts stmts)
    (hcode : codeIn X.F fd.code fd.qualname = true) (hco : fd.scope.isCoroutine = false) (hgen : fd.scope.isGenerator = false) (hk : fd.scope.kind = .function) (hcell : ∀ x ∈ fd.scope.names, x.2 ≠ .cell)
    (hG : fd.globals = X.G) (hB : fd.builtins = X.B) (hbind : ∀ vs, vs.length = N → ∀ s : Shared, X.F.In s.heap → BindsTo s fd ⟨vs, []⟩ ((ps.map X.nm).zip (vs ++ dv)))
    (hps : ps.Nodup) (hloc : ∀ p ∈ ps, fd.scope.names.lookup (X.nm p) = some .local) (hdv : ∀ W, VRs X W ds dv) (hm : SimB X n fd.scope.names body stmts) : FnSim X (n + 1) (fn ps ds body) a N := by
  intro A hA as hN σ k h E s W Q vs H V C
  obtain ⟨h1, -, -⟩ := bind_ok h
  have h2 := setLo_ok h1
  have hd0 := hA.dep
  have hroom : A.depth < recursionLimit := by unfold recursionLimit; omega
  have hF := X.FIn.keeps H.base
  refine (codeAny_call_def (binds := (ps.map X.nm).zip (vs ++ dv)) hroom (hF _ _ ho) hd (X.lim.keeps H.base) (codeRec_of hF hcode) hb (hbind vs (by rw [V.length]; exact hN) s hF) hcell ?_ (fun h₀ hns hk0 => ?_) hco hgen hk)
  · intro x hx
    have := (List.of_mem_zip (show (x.1, x.2) ∈ _ from hx)).1
    obtain ⟨p, hp, e⟩ := List.mem_map.mp this
    rw [← e]; exact hloc p hp
  · obtain ⟨H', S'⟩ := H.grow hk0 (s.toks + ((ps.map X.nm).zip (vs ++ dv)).length)
    have hE : EnvOk X fd.scope.names (callEnv fd s.heap.objs.size a) s.heap.objs.size := ⟨hk, rfl, rfl, hG, hB⟩
    have hA' : Room n (A.deeper (callEnv fd s.heap.objs.size a)) := ⟨hA.hand, by show A.depth + 1 + n ≤ 900; omega, by have := hA.un; show A.units + 3 + 200 * n ≤ 9000; omega⟩
    have no : ¬ Own W s.heap.objs.size := fun q => by have := H.ex _ q; rw [fresh_none] at this; cases this
    have nh : X.h₀.get? s.heap.objs.size = none := by
      cases q : X.h₀.get? s.heap.objs.size with
      | none => rfl
      | some o => have := H.base _ _ q; rw [fresh_none] at this; cases this
    refine hm _ _ hE _ hA' ⟨σ.hp, σ.nx, zipFL ps (as ++ ds), σ.ms⟩ _ _ _ _ h2 _ _ W _ (H'.lo _) ⟨_, hns, zip_rel hps (V.append (hdv W)), no, nh⟩ ⟨fun σ' W' s' h' x' H'' L' => ?_, fun σ' W' s' h' x' H'' L' => ?_, fun σ' W' s' h' x' H'' L' => ?_, fun v σ' W' s' a h' x' H'' V' => ?_⟩
    · have x2 := call_step hk0 x'
      exact C .none _ _ _ _ (kBack_ok h') rfl x2 (H''.lo _) rfl
    · cases h'
    · cases h'
    · have x2 := call_step hk0 x'
      exact C _ _ _ _ _ (kBack_ok h') rfl x2 (H''.lo _) V'
end
section
variable {X : Cx} {n : Nat} {sc : List (Str × NameKind)}
theorem SimS.whl {t : MB} {b : MX} {te : Expr} {body : List Stmt} {pos : Pos} (ht : SimT X n sc t te) (hb : SimB X n sc b body) : SimS X n sc (whl t b) (.While te body [] pos) := by
  intro env L hE A hA σ kn kb kc kr h E s W Q H hL C
  have h : whlN t b 100 σ kn kr = true := h
  refine wpAny_While (codeAny_whileLoop (fun m s' => ∃ σ' W', whlN t b m σ' kn kr = true ∧ Step (· = L) s W s' W' ∧ HRel X W' σ' s' ∧ LRel X W' L σ'.lo s'.heap) ?_ 100 ⟨σ, W, h, .refl .., H, hL⟩)
  rintro m s' ⟨σ', W', hm, x', H', L'⟩
  cases m with
  | zero => cases hm
  | succ m =>
    have hm : t σ' (fun c σ => br c (b σ (fun σ => whlN t b m σ kn kr) kn (fun σ => whlN t b m σ kn kr) kr) (kn σ)) = true := hm
    refine ht env L hE A hA σ' _ hm _ s' W' _ H' L' fun c σ₁ W₁ s₁ h₁ e₁ x₁ H₁ => ?_
    have L₁ := L'.lo' x₁ e₁
    cases c with
    | false =>
      simp only [Bool.false_eq_true, if_false]
      exact wpAny_execs_nil (C.nx _ _ _ h₁ (x'.trans (StepE.to x₁)) H₁ L₁)
    | true =>
      simp only [if_true]
      refine hb env L hE A hA σ₁ _ _ _ _ h₁ _ s₁ W₁ _ H₁ L₁ ⟨fun σ₂ W₂ s₂ h₂ x₂ H₂ L₂ => ⟨m, Nat.lt_succ_self m, σ₂, W₂, h₂, (x'.trans (StepE.to x₁)).trans x₂, H₂, L₂⟩, fun σ₂ W₂ s₂ h₂ x₂ H₂ L₂ => C.nx _ _ _ h₂ ((x'.trans (StepE.to x₁)).trans x₂) H₂ L₂,
        fun σ₂ W₂ s₂ h₂ x₂ H₂ L₂ => ⟨m, Nat.lt_succ_self m, σ₂, W₂, h₂, (x'.trans (StepE.to x₁)).trans x₂, H₂, L₂⟩, fun v σ₂ W₂ s₂ a h₂ x₂ H₂ V₂ => C.re _ _ _ _ _ h₂ ((x'.trans (StepE.to x₁)).trans x₂) H₂ V₂⟩
structure ItK (X : Cx) (sel : SEL) (It : Heap → Addr → Addr × Addr → Nat → Prop) : Prop where
  ex : ∀ h I p j, It h I p j → (h.get? I).isSome = true
  frame : ∀ h h' I p j, It h I p j → (∀ o, h.get? I = some o → h'.get? I = some o) → It h' I p j
  step : ∀ (A : Around) (s : Shared) (W : Wd) (p : Addr × Addr) (o : AO) (j : Nat) (e : Unit → Bool) (k : AV → Bool) (I : Addr), A.handled = none → RO X W s.heap p o → It s.heap I p j → sel j o e k = true →
    (e () = true ∧ ∀ (E : Value → Shared → Prop) (Q : Option Value → Shared → Prop), (∀ h', Heap.ExtBut I s.heap h' → Q none { s with heap := h' }) → wpAny (model X.prog X.w) A (pyNext (.ref I)) Q E s) ∨
    (∃ a v, VR X W a v ∧ k a = true ∧ ∀ (E : Value → Shared → Prop) (Q : Option Value → Shared → Prop), (∀ h' t, It h' I p (j + 1) → Heap.SameBut I s.heap h' → Q (some v) { s with heap := h', toks := t }) → wpAny (model X.prog X.w) A (pyNext (.ref I)) Q E s)
theorem itemL_ok {xs : List AV} {j : Nat} {e : Unit → Bool} {k : AV → Bool} (h : itemL xs j e k = true) : (e () = true ∧ xs[j]? = none) ∨ ∃ a, xs[j]? = some a ∧ k a = true := by
  have h := len_ok (l := xs) (n := 0) (k := fun m => br (Nat.ble m j) (e ()) (nth xs j k)) h
  rw [Nat.zero_add, br_iff] at h
  rcases h with ⟨h1, h2⟩ | ⟨h1, h2⟩
  · exact .inl ⟨h2, List.getElem?_eq_none (Nat.le_of_ble_eq_true h1)⟩
  · exact .inr (nth_ok h2)
theorem itK_list : ItK X selL (fun h I p j => h.IsListIter I p.1 j) where
  ex := fun h I p j ⟨o, g, _⟩ => by rw [g]; rfl
  frame := fun h h' I p j ⟨o, g, r⟩ k => ⟨o, k o g, r⟩
  step := fun A s W p o j e k I hh r it h => by
    obtain ⟨xs, rfl, h⟩ := onList_ok h
    obtain ⟨l1, vs, n1, g1, V1⟩ := r
    have hl : s.heap.IsList p.1 vs.toArray := ⟨_, g1, rfl, _, rfl⟩
    rcases itemL_ok h with ⟨h1, h2⟩ | ⟨a, ha, hk⟩
    · refine .inl ⟨h1, fun E Q q => wpAny_pyNext_list_end hh it hl ?_ q⟩
      rw [List.getElem?_eq_none_iff] at h2
      have := V1.length
      simp; omega
    · obtain ⟨v, hv, V⟩ := All2.get V1 ha
      exact .inr ⟨a, v, V, hk, fun E Q q => wpAny_pyNext_list_item it hl (by simpa using hv) fun h' i' k' => q h' s.toks i' k'⟩
theorem itK_tup : ItK X selT (fun h I p j => h.IsTupleIter I p.1 j) where
  ex := fun h I p j ⟨o, g, _⟩ => by rw [g]; rfl
  frame := fun h h' I p j ⟨o, g, r⟩ k => ⟨o, k o g, r⟩
  step := fun A s W p o j e k I hh r it h => by
    obtain ⟨xs, rfl, h⟩ := onTup_ok h
    obtain ⟨l1, vs, n1, g1, V1⟩ := r
    have hl : s.heap.IsTuple p.1 vs.toArray := ⟨_, g1, rfl, _, rfl⟩
    rcases itemL_ok h with ⟨h1, h2⟩ | ⟨a, ha, hk⟩
    · refine .inl ⟨h1, fun E Q q => wpAny_pyNext_tuple_end hh it hl ?_ q⟩
      rw [List.getElem?_eq_none_iff] at h2
      have := V1.length
      simp; omega
    · obtain ⟨v, hv, V⟩ := All2.get V1 ha
      exact .inr ⟨a, v, V, hk, fun E Q q => wpAny_pyNext_tuple_item it hl (by simpa using hv) fun h' i' k' => q h' s.toks i' k'⟩
end
section
variable {X : Cx} {n : Nat} {sc : List (Str × NameKind)}
theorem rangeSize_one (a b : Int) : Builtin.Range.rangeSize a b 1 = if a < b then b - a else 0 := by
  unfold Builtin.Range.rangeSize
  rw [if_pos (by decide)]
  split
  · rw [Int.ediv_one]; omega
  · rfl
theorem itK_range (a b : Int) : ItK X (selR a b) (fun h I p j => IsRangeIter h I (a + (j : Nat)) (Builtin.Range.rangeSize a b 1 - (j : Nat)) 1) where
  ex := fun h I p j g => by rw [show h.get? I = _ from g]; rfl
  frame := fun h h' I p j g k => k _ g
  step := fun A s W p o j e k I hh r it h => by
    have h := forceI_ok (show forceI (addI a (.ofNat j)) (fun z => br (leb b z) (e ()) (k (.int z))) = true from h)
    rw [addI_eq, br_iff] at h
    rcases h with ⟨h1, h2⟩ | ⟨h1, h2⟩
    · have h1 := leb_iff.mp h1
      refine .inl ⟨h2, fun E Q q => wpAny_pyNext_range_end hh it ?_ q⟩
      rw [rangeSize_one]
      have : b ≤ a + (j : Int) := h1
      split <;> omega
    · have h1 : ¬ b ≤ a + (j : Int) := fun z => by rw [leb_iff.mpr (show b ≤ a + Int.ofNat j from z)] at h1; cases h1
      refine .inr ⟨.int (a + Int.ofNat j), .int (a + (j : Int)) s.toks, ⟨s.toks, rfl⟩, h2, fun E Q q => wpAny_pyNext_range_item it ?_ fun h' i' k' => q h' _ ?_ k'⟩
      · rw [rangeSize_one]
        split <;> omega
      · have e1 : a + ((j + 1 : Nat) : Int) = a + (j : Int) + 1 := by omega
        have e2 : Builtin.Range.rangeSize a b 1 - ((j + 1 : Nat) : Int) = Builtin.Range.rangeSize a b 1 - (j : Int) - 1 := by omega
        rw [e1, e2]; exact i'
theorem for_ok {sel : SEL} {It : Heap → Addr → Addr × Addr → Nat → Prop} (KI : ItK X sel It) {t : MT} {b : MX} {te : Expr} {body : List Stmt} {env : Env} {L : Addr} (hE : EnvOk X sc env L) {A : Around} (hA : Room n A) {i : Nat} {p : Addr × Addr} {σ : St} {kn : KS} {kr : K}
    (h : forN sel t b i 100 0 σ kn kr = true) {s₀ s : Shared} {W : Wd} {I : Addr} {R : Result → Shared → Prop} (hp : W.ρ[i]? = some p) (it : It s.heap I p 0) (H : HRel X W σ s) (hL : LRel X W L σ.lo s.heap)
    (k0 : ∀ b o, s₀.heap.get? b = some o → s.heap.get? b = some o) (os : s.os = s₀.os) (hI : s₀.heap.get? I = none) (hIo : ¬ Own W I) (hIh : X.h₀.get? I = none) (hIL : I ≠ L) (hLs : (s₀.heap.get? L).isSome = true)
    (hgo : ∀ (s : Shared) (E : Value → Shared → Prop) (Q : Unit → Shared → Prop) (j : Nat) (v : Value), It s.heap I p j → Q () s → wpAny (model X.prog X.w) A (letOwnedTupleGo te (.ref I) v) Q E s)
    (ht : SimG X n sc t te) (hb : SimB X n sc b body)
    (Cn : ∀ σ' W' s', kn σ' = true → Step (· = L) s₀ W s' W' → HRel X W' σ' s' → LRel X W' L σ'.lo s'.heap → R (.ok .next) s')
    (Cr : ∀ v σ' W' s' a, kr v σ' = true → Step (· = L) s₀ W s' W' → HRel X W' σ' s' → VR X W' v a → R (.ok (.ret a)) s') :
    codeAny (model X.prog X.w) A (.forLoop te (.ref I) body [] env) R s := by
  refine codeAny_forLoop_any (fun m s' => ∃ j σ' W', forN sel t b i m j σ' kn kr = true ∧ Step (fun b => b = L ∨ b = I) s W s' W' ∧ HRel X W' σ' s' ∧ LRel X W' L σ'.lo s'.heap ∧ It s'.heap I p j) ?_ 100 ⟨0, σ, W, h, .refl .., H, hL, it⟩
  rintro m s' ⟨j, σ', W', hm, x', H', L', it'⟩
  cases m with
  | zero => cases hm
  | succ m =>
    have hm : σ'.hp.get i (fun o => sel j o (fun _ => kn σ') fun x => t x σ' fun σ => b σ (fun σ => forceN (Nat.succ j) fun j => forN sel t b i m j σ kn kr) kn (fun σ => forceN (Nat.succ j) fun j => forN sel t b i m j σ kn kr) kr) = true := hm
    obtain ⟨o, ho, h1⟩ := T.get_ok hm
    have hp' := x'.le.ρ i p hp
    obtain ⟨o', ho', ro⟩ := H'.obj i p hp'
    rw [ho] at ho'; cases ho'
    have hIo' : ¬ Own W' I := fun q => by
      rcases x'.own I q with z | z
      · exact hIo z
      · have := KI.ex _ _ _ _ it; rw [z] at this; cases this
    have fin : ∀ {s'' : Shared} {W'' : Wd}, Step (fun b => b = L ∨ b = I) s W s'' W'' → ∀ {h' : Heap} {tk : Nat}, (∀ b o, b ≠ I → s''.heap.get? b = some o → h'.get? b = some o) → Step (· = L) s₀ W { s'' with heap := h', toks := tk } W'' := by
      intro s'' W'' x h' tk kk
      refine x.since k0 os (fun b o nd g => kk b o (fun q => nd (.inr q)) g) rfl (fun b hb hs => ?_) fun b hb hs => ?_
      · rcases hb with rfl | rfl
        · rfl
        · rw [hI] at hs; cases hs
      · rcases hb with rfl | rfl
        · obtain ⟨o, g⟩ := Option.isSome_iff_exists.mp (x.stay _ (by obtain ⟨o, g⟩ := Option.isSome_iff_exists.mp hLs; rw [k0 _ _ g]; rfl))
          show (h'.get? b).isSome = true
          rw [kk _ _ (Ne.symm hIL) g]; rfl
        · rw [hI] at hs; cases hs
    rcases KI.step A s' W' p o j _ _ I hA.hand ro it' h1 with ⟨h2, q⟩ | ⟨a, v, V, h2, q⟩
    · refine q _ _ fun h' k' => wpAny_execs_nil ?_
      exact Cn _ W' _ h2 (fin x' (h' := h') (tk := s'.toks) fun b o nb g => k' b o nb g) (H'.but (fun b o nb g => k' b o nb g) hIo' hIh s'.toks) (L'.but (fun b o nb g => k' b o nb g) (Ne.symm hIL))
    · refine q _ _ fun h' tk i' k' => ?_
      have H₁ : HRel X W' σ' { s' with heap := h', toks := tk } := H'.but (fun b o nb g => k'.extBut b o nb g) hIo' hIh tk
      have L₁ : LRel X W' L σ'.lo h' := L'.but (fun b o nb g => k'.extBut b o nb g) (Ne.symm hIL)
      have x₁ : Step (fun b => b = L ∨ b = I) s W { s' with heap := h', toks := tk } W' := x'.trans ⟨.refl _, fun b o g _ nd => k'.extBut b o (fun q => nd (.inr q)) g, fun _ z => .inl z, fun b hb => by
        by_cases q : b = I
        · subst q; exact KI.ex _ _ _ _ i'
        · obtain ⟨o, g⟩ := Option.isSome_iff_exists.mp hb
          show (h'.get? b).isSome = true
          rw [k'.extBut b o q g]; rfl, rfl⟩
      refine hgo _ _ _ (j + 1) v i' ?_
      refine ht env L hE A hA a σ' _ h2 _ _ W' _ v H₁ L₁ V fun σ₂ W₂ s₂ h₃ x₂ H₂ L₂ => ?_
      have keepI : ∀ {s₁ s₂ : Shared} {W₁ W₂ : Wd}, Step (· = L) s₁ W₁ s₂ W₂ → ¬ Own W₁ I → ∀ o, s₁.heap.get? I = some o → s₂.heap.get? I = some o := fun x n o g => x.keep I o g n hIL
      have wk : ∀ {s₁ s₂ : Shared} {W₁ W₂ : Wd}, Step (· = L) s₁ W₁ s₂ W₂ → Step (fun b => b = L ∨ b = I) s₁ W₁ s₂ W₂ := fun x => x.weak fun b => .inl
      have hIo₂ : ¬ Own W₂ I := fun q => by
        rcases x₂.own I q with z | z
        · exact hIo' z
        · have := KI.ex _ _ _ _ i'; rw [show h'.get? I = none from z] at this; cases this
      have it₂ : It s₂.heap I p (j + 1) := KI.frame _ _ _ _ _ i' (keepI x₂ hIo')
      refine hb env L hE A hA σ₂ _ _ _ _ h₃ _ s₂ W₂ _ H₂ L₂ ⟨fun σ₃ W₃ s₃ h₄ x₃ H₃ L₃ => ?_, fun σ₃ W₃ s₃ h₄ x₃ H₃ L₃ => ?_, fun σ₃ W₃ s₃ h₄ x₃ H₃ L₃ => ?_, fun v σ₃ W₃ s₃ a h₄ x₃ H₃ V₃ => ?_⟩
      · exact ⟨m, Nat.lt_succ_self m, j + 1, σ₃, W₃, forceN_ok h₄, (x₁.trans (wk x₂)).trans (wk x₃), H₃, L₃, KI.frame _ _ _ _ _ it₂ (keepI x₃ hIo₂)⟩
      · exact Cn _ _ _ h₄ (fin ((x₁.trans (wk x₂)).trans (wk x₃)) (h' := s₃.heap) (tk := s₃.toks) fun _ _ _ g => g) H₃ L₃
      · exact ⟨m, Nat.lt_succ_self m, j + 1, σ₃, W₃, forceN_ok h₄, (x₁.trans (wk x₂)).trans (wk x₃), H₃, L₃, KI.frame _ _ _ _ _ it₂ (keepI x₃ hIo₂)⟩
      · exact Cr _ _ _ _ _ h₄ (fin ((x₁.trans (wk x₂)).trans (wk x₃)) (h' := s₃.heap) (tk := s₃.toks) fun _ _ _ g => g) H₃ V₃
end
section
variable {X : Cx} {n : Nat} {sc : List (Str × NameKind)}
theorem iter_ok {A : Around} {W : Wd} {s : Shared} {p : Addr × Addr} {o : AO} {f : SEL → Bool} (ro : RO X W s.heap p o) (h : onIter o f = true) :
    ∃ sel It, ItK X sel It ∧ f sel = true ∧ ∀ (E : Value → Shared → Prop) (Q : Value → Shared → Prop), (∀ ob : Obj, ob.isFreed = false → It (s.heap.push ob) s.heap.objs.size p 0 → Q (.ref s.heap.objs.size) { s with heap := s.heap.push ob }) → wpAny (model X.prog X.w) A (pyIter (.ref p.1)) Q E s := by
  cases o <;> try exact (nomatch (show false = true from h))
  · obtain ⟨l1, vs, n1, g1, V1⟩ := ro
    exact ⟨selL, _, itK_list, h, fun E Q q => wpAny_pyIter_list ⟨_, g1, rfl, _, rfl⟩ (q _ rfl ⟨_, Heap.get?_push_size _ rfl, rfl, rfl⟩)⟩
  · obtain ⟨l1, vs, n1, g1, V1⟩ := ro
    exact ⟨selT, _, itK_tup, h, fun E Q q => wpAny_pyIter_tuple ⟨_, g1, rfl, _, rfl⟩ (q _ rfl ⟨_, Heap.get?_push_size _ rfl, rfl, rfl⟩)⟩
  · rename_i a b
    obtain ⟨ta, tb, tc, g1⟩ := ro
    obtain ⟨ha, h1⟩ := br_false h
    obtain ⟨hb, h2⟩ := br_false h1
    have ha := smallI_ok ha
    have hb := smallI_ok hb
    have hs : Builtin.Range.small a b 1 = true := by
      unfold Builtin.Range.small
      rw [rangeSize_one]
      have : ∀ x : Int, x.natAbs ≤ 3000000000 → Builtin.Range.rangeFitsLong x = true := fun x hx => by unfold Builtin.Range.rangeFitsLong; simp; omega
      rw [this a (by omega), this b (by omega), this 1 (by decide)]
      rw [this (if a < b then b - a else 0) (by split <;> omega)]
      rw [if_pos (show (1 : Int) > 0 by decide), this (b + (1 - 1)) (by omega)]
      simp
    refine ⟨selR a b, _, itK_range a b, h2, fun E Q q => wpAny_pyIter_range g1 hs (q _ rfl ?_)⟩
    have : a + ((0 : Nat) : Int) = a := by omega
    have e2 : Builtin.Range.rangeSize a b 1 - ((0 : Nat) : Int) = Builtin.Range.rangeSize a b 1 := by omega
    rw [this, e2]
    exact Heap.get?_push_size _ rfl
theorem forBody {t : MT} {b : MX} {te : Expr} {body : List Stmt} {env : Env} {L : Addr} (hE : EnvOk X sc env L) {A : Around} (hA : Room n A) {i : Nat} {p : Addr × Addr} {σ : St} {kn kb kc : KS} {kr : K} {sel : SEL} {It : Heap → Addr → Addr × Addr → Nat → Prop} (KI : ItK X sel It)
    (h : forN sel t b i 100 0 σ kn kr = true) {s : Shared} {W : Wd} {E : Value → Shared → Prop} {Q : Flow → Shared → Prop} (hp : W.ρ[i]? = some p) (H : HRel X W σ s) (hL : LRel X W L σ.lo s.heap)
    (hgo : ∀ (I : Addr) (s : Shared) (E : Value → Shared → Prop) (Q : Unit → Shared → Prop) (j : Nat) (v : Value), It s.heap I p j → Q () s → wpAny (model X.prog X.w) A (letOwnedTupleGo te (.ref I) v) Q E s)
    (ht : SimG X n sc t te) (hb : SimB X n sc b body) (C : ContS X L s W kn kb kc kr Q) {ob : Obj} (hf : ob.isFreed = false) (it : It (s.heap.push ob) s.heap.objs.size p 0) :
    codeAny (model X.prog X.w) A (.forLoop te (.ref s.heap.objs.size) body [] env) (fun r s' => match r with | .ok f => Q f s' | .error e => cameBackBy (model X.prog X.w) A env E e s') { s with heap := s.heap.push ob } := by
  have k0 : ∀ b o, s.heap.get? b = some o → (s.heap.push ob).get? b = some o := fun b o g => Heap.get?_push_of_some _ g
  obtain ⟨H', S'⟩ := H.grow k0 s.toks
  have no : ¬ Own W s.heap.objs.size := fun q => by have := H.ex _ q; rw [fresh_none] at this; cases this
  have nh : X.h₀.get? s.heap.objs.size = none := by
    cases q : X.h₀.get? s.heap.objs.size with
    | none => rfl
    | some o => have := H.base _ _ q; rw [fresh_none] at this; cases this
  have hLs : (s.heap.get? L).isSome = true := by obtain ⟨m, ⟨o, _, _, g, _⟩, _⟩ := hL; rw [g]; rfl
  have ne : s.heap.objs.size ≠ L := fun q => by rw [← q, fresh_none] at hLs; cases hLs
  exact for_ok KI hE hA h (s₀ := s) hp it H' (hL.stepE S') k0 rfl (fresh_none _) no nh ne hLs (hgo _) ht hb (fun σ' W' s' h' x' H' L' => C.nx _ _ _ h' x' H' L') fun v σ' W' s' a h' x' H' V' => C.re _ _ _ _ _ h' x' H' V'
theorem SimS.for_ {t : MT} {m : M} {b : MX} {te ie : Expr} {body : List Stmt} {pos : Pos} (hs : ∀ env x, foldedSetIterable ie env x = pure x) (hgo : ∀ it v, letOwnedTupleGo te it v = pure ()) (ht : SimG X n sc t te) (hm : SimE X n sc m ie) (hb : SimB X n sc b body) :
    SimS X n sc (for_ t m b) (.For te ie body [] pos) := by
  intro env L hE A hA σ kn kb kc kr h E s W Q H hL C
  refine wpAny_For (hm env L hE A hA σ _ h E s W _ H hL fun v σ₁ W₁ s₁ va h₁ e₁ x₁ H₁ V₁ => ?_) (hs env)
  obtain ⟨i, rfl, h2⟩ := onOwn_ok h₁
  obtain ⟨p, o, hp, rfl, ho, ro, h3⟩ := own_obj H₁ V₁ h2
  obtain ⟨sel, It, KI, h4, q⟩ := iter_ok (A := A) ro h3
  refine q _ _ fun ob hf it => ?_
  exact forBody hE hA KI h4 hp H₁ (hL.lo' x₁ e₁) (fun I s E Q j v _ q => wpAny_of_eq (hgo _ _) q) ht hb (C.step (StepE.to x₁)) hf it
theorem SimS.forL {t : MT} {m : M} {b : MX} {ie : Expr} {elts : List Expr} {k : Nat} {tpos : Pos} {body : List Stmt} {pos : Pos} (hs : ∀ env x, foldedSetIterable ie env x = pure x) (ht : SimG X n sc t (.Tuple elts k tpos)) (hm : SimE X n sc m ie) (hb : SimB X n sc b body) :
    SimS X n sc (Mine.forL t m b) (.For (.Tuple elts k tpos) ie body [] pos) := by
  intro env L hE A hA σ kn kb kc kr h E s W Q H hL C
  refine wpAny_For (hm env L hE A hA σ _ h E s W _ H hL fun v σ₁ W₁ s₁ va h₁ e₁ x₁ H₁ V₁ => ?_) (hs env)
  obtain ⟨i, rfl, h2⟩ := onOwn_ok h₁
  have h2 : forN selL t b i 100 0 σ₁ kn kr = true := h2
  obtain ⟨p, o, hp, rfl, ho, ro, h3⟩ := own_obj H₁ V₁ (show σ₁.hp.get i _ = true from h2)
  obtain ⟨xs, rfl, h4⟩ := onList_ok h3
  obtain ⟨l1, vs, n1, g1, V⟩ := ro
  refine wpAny_pyIter_list ⟨_, g1, rfl, _, rfl⟩ ?_
  refine forBody hE hA itK_list h2 hp H₁ (hL.lo' x₁ e₁) (fun I s E Q j v it q => ?_) ht hb (C.step (StepE.to x₁)) rfl ⟨_, Heap.get?_push_size _ rfl, rfl, rfl⟩
  cases v <;> first | exact wpAny_letOwnedTupleGo_listiter it q | exact wpAny_pure q
end
theorem tcw (C : Addr) (rest : List Value) (kw : List (Str × Value)) : Code.weight (.builtin "type.__call__" ⟨.ref C :: rest, kw⟩) = 1 := by kernel_rfl
theorem tcu (args : Args) : Code.cUnits (.builtin "type.__call__" args) = 1 := by kernel_rfl
theorem none_beyond (h : Heap) {a : Addr} (ha : h.objs.size ≤ a) : h.get? a = none := by
  cases e : h.get? a with
  | none => rfl
  | some o => exact absurd (Heap.lt_size e) (Nat.not_lt.mpr ha)
section
variable {X : Cx} {n : Nat} {sc : List (Str × NameKind)}
theorem make_ok {C : Nat} {f : MF} {a : Addr} {m N : Nat} (hm : makesIn X.F (X.cls C) = true) (hi : findIn X.F (.ref (X.cls C)) "__init__" = some (some (.ref a))) (ht : typeIn X.F (.ref a) = some (.type "function")) (hf : FnSim X m f a (N + 1)) {A : Around} (hA : Room (m + 1) A)
    {as : List AV} (hN : as.length = N) {σ : St} {k : K} (h : new σ (.inst C .nil) (fun v σ => f (v :: as) σ (kFst k v)) = true) {E : Value → Shared → Prop} {s : Shared} {W : Wd} {Q : Value → Shared → Prop} {vs : List Value} (H : HRel X W σ s) (V : VRs X W as vs) (Co : Cont X σ s W k Q) :
    wpAny (model X.prog X.w) A (call (.ref (X.cls C)) vs) Q E s := by
  obtain ⟨hh, g, d, t, os⟩ := s
  have hF := X.FIn.keeps H.base
  refine wpAny_call (make_core (makes_of hF hm) (looks_findIn hF hi) (fun self => bind_fn hF self ht) (.inl rfl) ?_)
  obtain ⟨hp, e, h1⟩ := new_ok h
  have k0 : ∀ b o, hh.get? b = some o → ((hh.push emptyDict).push (instObj (X.cls C) hh.objs.size)).get? b = some o := fun b o g => Heap.get?_push_of_some _ (Heap.get?_push_of_some _ g)
  have g1 : ((hh.push emptyDict).push (instObj (X.cls C) hh.objs.size)).get? (hh.objs.size + 1) = some (instObj (X.cls C) hh.objs.size) := by
    have := Heap.get?_push_size (hh.push emptyDict) (o := instObj (X.cls C) hh.objs.size) rfl
    rwa [Heap.size_push] at this
  have g2 : ((hh.push emptyDict).push (instObj (X.cls C) hh.objs.size)).get? hh.objs.size = some emptyDict := Heap.get?_push_of_some _ (Heap.get?_push_size _ rfl)
  obtain ⟨H', S'⟩ := H.new (h' := (hh.push emptyDict).push (instObj (X.cls C) hh.objs.size)) (t := t) (p := (hh.objs.size + 1, hh.objs.size)) (o := .inst C .nil) (hp := hp) k0 (none_beyond _ (Nat.le_succ _)) (fresh_none _) (by rw [g1]; rfl) (by rw [g2]; rfl)
    ⟨Nat.succ_ne_self _, g1, fun _ => none, ⟨emptyDict, #[], 0, g2, rfl, fun e he => by simp at he, fun name => rfl, Nat.le_refl _⟩, fun x => rfl⟩ e
  have hA' : Room m (A.under (.builtin "type.__call__" ⟨.ref (X.cls C) :: vs, []⟩)) := ⟨hA.hand, by have := hA.dep; show A.depth + Code.weight _ + m ≤ 900; rw [tcw]; omega, by have := hA.un; show A.units + Code.cUnits _ + 200 * m ≤ 9000; rw [tcu]; omega⟩
  have own : VR X (W.add (hh.objs.size + 1, hh.objs.size)) (.own σ.nx) (.ref (hh.objs.size + 1)) := ⟨(hh.objs.size + 1, hh.objs.size), by
    show (W.ρ ++ [_])[σ.nx]? = _
    rw [H.nx, List.getElem?_append_right (Nat.le_refl _), Nat.sub_self]; rfl, rfl⟩
  have C2 : Cont X ⟨hp, σ.nx + 1, σ.lo, σ.ms⟩ ⟨(hh.push emptyDict).push (instObj (X.cls C) hh.objs.size), g, d, t, os⟩ (W.add (hh.objs.size + 1, hh.objs.size)) (kFst k (.own σ.nx)) (fun v s' => v = .none ∧ Q (.ref (hh.objs.size + 1)) s') := by
    intro v σ' W' s' a h' e' x' H' V'
    cases v <;> try exact (nomatch (show false = true from h'))
    exact ⟨V', Co _ _ _ _ _ h' e' (S'.trans x') H' (own.le x'.le)⟩
  refine codeAny_mono (hf _ hA' _ (by simp [hN]) _ _ h1 E _ _ _ (.ref (hh.objs.size + 1) :: vs) H' (.cons own (V.le S'.le)) C2) fun r s' z => ?_
  rcases r with e | (v | _ | _ | _) <;> first | exact z | exact z.elim
theorem SimE.callC {C : Nat} {f : MF} {a : Addr} {ms : ML} {es : List Expr} {x : Str} {p pos : Pos} {m : Nat} (hg : nsIn X.F X.G x = some (some (.ref (X.cls C)))) (hl : sc.lookup x = some .globalImplicit) (hd : (x == ("__debug__" : Str)) = false) (hk : keepIn X.F (.ref (X.cls C)) = true)
    (hp : ∀ (env : Env), (backTo pos (starEach es env)).any (·.1) = false) (hm : makesIn X.F (X.cls C) = true) (hi : findIn X.F (.ref (X.cls C)) "__init__" = some (some (.ref a))) (ht : typeIn X.F (.ref a) = some (.type "function")) (hf : FnSim X m f a (es.length + 1)) (hmn : m + 1 ≤ n)
    (hs : SimL X n sc ms es) : SimE X n sc (callC C f ms) (.Call (.Name x p) es [] pos) := by
  intro env L hE A hA σ k h E s W Q H hL Co
  refine wpAny_Call_Name_kw (glob_ok hE hg hl hd H ?_)
  refine callWith_of (by rw [hp env]; rfl) (keeps_K hk) (evalArgs_of (hp env) (hs pos env L hE A hA σ _ h E s W _ H hL fun vs σ₁ W₁ s₁ as h₁ l₁ e₁ x₁ H₁ V₁ => ⟨X.FIn.keeps H₁.base, ?_⟩))
  exact make_ok hm hi ht hf (hA.weak hmn) l₁ h₁ H₁ V₁ (Co.step e₁ x₁)
end
section
variable {X : Cx} {n : Nat} {sc : List (Str × NameKind)}
theorem SimE.prop {C mi : Nat} {f : MF} {a pa : Addr} {rest : List Value} {o : M} {oe : Expr} {x : Str} {pos : Pos} {m : Nat} (hC : ClsOk X C) (hx : X.nm mi = x) (hfo : ∀ od, findObj X.F (X.cls C) od x = some (.bind (.builtin "property.__get__") (.ref pa)))
    (hpr : recIn X.F pa "property" = some (.ref a :: rest)) (hb : ∀ (env : Env) (w : Sem Value), attributeBase oe x env w = w) (hf : FnSim X m f a 1) (hmn : m + 1 ≤ n) (hm : SimE X n sc o oe) : SimE X n sc (Mine.prop C mi f o) (.Attribute oe x pos) := by
  intro env L hE A hA σ k h E s W Q H hL Co
  refine Attribute_any_ (hm env L hE A hA σ _ h E s W _ H hL fun v σ₁ W₁ s₁ va h₁ e₁ x₁ H₁ V₁ => ?_) (by rw [arm_eval_Attribute, hb])
  obtain ⟨p, od, rfl, I, hl, h2⟩ := chkM_ok H₁ V₁ h₁
  have hF := X.FIn.keeps H₁.base
  have hA' : Room m A.in1 := ⟨hA.hand, by have := hA.dep; show A.depth + m ≤ 900; omega, by have := hA.un; show A.units + 1 + 200 * m ≤ 9000; omega⟩
  refine get_bind hF I hC.ga (hfo _) hC.gt (wpAny_call (prop_get (s := { s₁ with toks := s₁.toks + 1 }) hF hpr ?_))
  have Cn : Cont X σ₁ { s₁ with toks := s₁.toks + 1 } W₁ k (fun v s' => handedIn v = true ∧ Q v s') := fun u σ' W' s' va h' e' x' H' V' => ⟨V'.handed, Co _ _ _ _ _ h' (e'.trans e₁) (x₁.trans ((Step.toks _).trans x')) H' V'⟩
  refine codeAny_mono (hf A.in1 hA' [v] rfl σ₁ k h2 (fun e s' => wpAny (model X.prog X.w) A (noteIf true (.ref p.1) (.str x s₁.toks) e) (fun _ s'' => E e s'') E s') _ W₁ _ [.ref p.1] (H₁.toks _) (.cons V₁ .nil) Cn) fun r s' z => ?_
  rcases r with e | (v | _ | _ | _) <;> first | exact z | exact z.elim | skip
  obtain ⟨z1, z2⟩ := z
  exact wpAny_of_eq (handedOut_of z1) z2
end
section
variable {X : Cx} {n : Nat} {sc : List (Str × NameKind)}
theorem HRel.adopt {W : Wd} {σ : St} {s : Shared} {D : Addr} {ob : Obj} {o : AO} {hp : T} (H : HRel X W σ s) (g : s.heap.get? D = some ob) (nD : ¬ Own W D) (h0 : X.h₀.get? D = none) (r : RO X (W.add (D, D)) s.heap (D, D) o)
    (e : ∀ m, hp.at m = if m = σ.nx then some o else σ.hp.at m) : HRel X (W.add (D, D)) ⟨hp, σ.nx + 1, σ.lo, σ.ms⟩ s := by
  have ne : ∀ b, Own W b → b ≠ D := fun b hb => by rintro rfl; exact nD hb
  have at_ : ∀ (i : Nat) (q : Addr × Addr), (W.add (D, D)).ρ[i]? = some q → W.ρ[i]? = some q ∨ (i = W.ρ.length ∧ q = (D, D)) := fun i q hq => by
    have hq : (W.ρ ++ [(D, D)])[i]? = some q := hq
    by_cases hi : i < W.ρ.length
    · rw [List.getElem?_append_left hi] at hq; exact .inl hq
    · rw [List.getElem?_append_right (Nat.not_lt.mp hi)] at hq
      have h0 : i - W.ρ.length = 0 := by
        cases z : i - W.ρ.length with
        | zero => rfl
        | succ n => rw [z] at hq; simp at hq
      rw [h0] at hq
      simp at hq
      exact .inr ⟨by omega, hq.symm⟩
  have own_of : ∀ {i : Nat} {q : Addr × Addr}, W.ρ[i]? = some q → Own W q.1 ∧ Own W q.2 := fun hq => ⟨⟨_, List.mem_of_getElem? hq, .inl rfl⟩, ⟨_, List.mem_of_getElem? hq, .inr rfl⟩⟩
  refine ⟨H.base, by show σ.nx + 1 = (W.ρ ++ [(D, D)]).length; rw [List.length_append, H.nx]; rfl, fun i q hq => ?_, fun i i' q q' hq hq' n => ?_, fun b hb => ?_, fun b hb => ?_, H.mask, H.gens⟩
  · rcases at_ i q hq with z | ⟨rfl, rfl⟩
    · obtain ⟨o', h1, h2⟩ := H.obj i q z
      have : i ≠ σ.nx := by rw [H.nx]; have := (List.getElem?_eq_some_iff.mp z).1; omega
      exact ⟨o', by rw [e, if_neg this]; exact h1, h2.at (Wd.add_le ..) (fun _ z => z) (fun _ z => z)⟩
    · exact ⟨o, by rw [e, if_pos H.nx.symm], r⟩
  · rcases at_ i q hq with z | ⟨rfl, rfl⟩ <;> rcases at_ i' q' hq' with z' | ⟨rfl, rfl⟩
    · exact H.inj i i' q q' z z' n
    · have a := ne _ (own_of z).1; have b := ne _ (own_of z).2
      exact ⟨⟨a, a⟩, b, b⟩
    · have a := ne _ (own_of z').1; have b := ne _ (own_of z').2
      exact ⟨⟨a.symm, b.symm⟩, a.symm, b.symm⟩
    · exact absurd rfl n
  · rcases own_add.mp hb with z | rfl | rfl
    · exact H.old b z
    · exact h0
    · exact h0
  · rcases own_add.mp hb with z | z | z
    · exact H.ex b z
    · show (s.heap.get? b).isSome = true; rw [show b = D from z, g]; rfl
    · show (s.heap.get? b).isSome = true; rw [show b = D from z, g]; rfl
theorem compLoop_any {prog : Program} {w : World} {A : Around} {elt target iter : Expr} {scope : Scope} {pos : Pos} {it acc : Value} {env : Env} {R : Result → Shared → Prop} {s : Shared} (I : Nat → Shared → Prop)
    (turn : ∀ n s, I n s → wpAny (model prog w) A (pyNext it) (fun r s₁ => match r with
      | none => R (.ok .next) s₁
      | some v => wpAny (model prog w) A (letOwnedTupleGo target it v) (fun _ s₁' => wpAny (model prog w) A (assign target env v) (fun _ s₂ => wpAny (model prog w) A (eval elt env) (fun x s₃ =>
          wpAny (model prog w) A (call (.builtin "list.append") [acc, x]) (fun _ s₄ => ∃ m, m < n ∧ I m s₄) (notedBy (model prog w) A env fun e s' => R (.error e) s') s₃)
          (notedBy (model prog w) A env fun e s' => R (.error e) s') s₂) (notedBy (model prog w) A env fun e s' => R (.error e) s') s₁') (notedBy (model prog w) A env fun e s' => R (.error e) s') s₁) (notedBy (model prog w) A env fun e s' => R (.error e) s') s)
    (n : Nat) (h : I n s) : codeAny (model prog w) A (.compLoop (.ListComp elt [⟨target, iter, [], 0⟩] scope pos) 0 it acc env) R s := by
  refine codeAny_loop rfl I (fun n s hI => ?_) n h
  show wpAny _ _ ((compTurn (.ListComp elt [⟨target, iter, [], 0⟩] scope pos) 0 it acc env).onRaise (fun x => do noteFrame x env; theTreesLotGoes x)) _ _ s
  refine wpAny_noted ?_
  rw [compTurn_list1]
  refine wpAny_bind (wpAny_standAt (wpAny_bind (wpAny_mono (turn n s hI) (fun r s₁ h₁ => ?_) fun _ _ h' => h')))
  cases r with
  | none => exact wpAny_pure h₁
  | some v =>
    refine wpAny_bind (wpAny_mono h₁ (fun _ s₁' h₁' => ?_) fun _ _ h' => h')
    exact wpAny_bind (wpAny_mono h₁' (fun _ s₂ h₂ => wpAny_bind (wpAny_bind (wpAny_mono h₂ (fun x s₃ h₃ => wpAny_bind (wpAny_mono h₃
      (fun _ s₄ h₄ => wpAny_pure (wpAny_pure ⟨rfl, h₄⟩)) fun _ _ h' => h')) fun _ _ h' => h'))) fun _ _ h' => h')
noncomputable abbrev lstObj (vs : List Value) (z : Nat) : Obj := { cls := .type "list", dict := none, data := .seq (List.toArray vs) z, slots := #[] }
theorem comp_ok {sel : SEL} {It : Heap → Addr → Addr × Addr → Nat → Prop} (KI : ItK X sel It) {t : MT} {m : M} {te ee iter : Expr} {scope : Scope} {pos : Pos} {cenv : Env} {C D I : Addr} {A : Around} (hA : A.handled = none) (P : Wd → FL → Heap → Prop) {p : Addr × Addr}
    (hgo : ∀ (s : Shared) (E : Value → Shared → Prop) (Q : Unit → Shared → Prop) (j : Nat) (v : Value), It s.heap I p j → Q () s → wpAny (model X.prog X.w) A (letOwnedTupleGo te (.ref I) v) Q E s)
    (hPs : ∀ {W W' : Wd} {lo : FL} {s s' : Shared}, P W lo s.heap → Step (fun b => b = D ∨ b = I) s W s' W' → P W' lo s'.heap)
    (ht : ∀ (v : AV) (σ : St) (k : KS), t v σ k = true → ∀ (E : Value → Shared → Prop) (s : Shared) (W : Wd) (Q : Shared → Prop) (a : Value), HRel X W σ s → P W σ.lo s.heap → VR X W v a →
      (∀ σ' W' s', k σ' = true → Step (· = C) s W s' W' → HRel X W' σ' s' → P W' σ'.lo s'.heap → Q s') → wpAny (model X.prog X.w) A (assign te cenv a) (fun _ => Q) E s)
    (hPb : ∀ {W : Wd} {lo : FL} {h h' : Heap}, P W lo h → (∀ b o, b ≠ I → h.get? b = some o → h'.get? b = some o) → P W lo h')
    (he : ∀ (σ : St) (k : K), m σ k = true → ∀ (E : Value → Shared → Prop) (s : Shared) (W : Wd) (Q : Value → Shared → Prop), HRel X W σ s → P W σ.lo s.heap → Cont X σ s W k Q → wpAny (model X.prog X.w) A (eval ee cenv) Q E s)
    {i : Nat} {σ : St} {k : KL} (h : compN sel m t i 100 0 [] σ k = true) {s : Shared} {W : Wd} {R : Result → Shared → Prop} (hp : W.ρ[i]? = some p) (it : It s.heap I p 0) (hD : s.heap.get? D = some (lstObj [] 0)) (H : HRel X W σ s) (hP : P W σ.lo s.heap)
    (nD : ¬ Own W D) (nI : ¬ Own W I) (hD0 : X.h₀.get? D = none) (hI0 : X.h₀.get? I = none) (hDI : D ≠ I) (hDC : D ≠ C) (hCI : C ≠ I)
    {s₀ : Shared} (k0 : ∀ b o, s₀.heap.get? b = some o → s.heap.get? b = some o) (os : s.os = s₀.os) (zI : s₀.heap.get? I = none) (zD : s₀.heap.get? D = none) (zC : s₀.heap.get? C = none)
    (Cn : ∀ (as : List AV) (vs : List Value) (σ' : St) (W' : Wd) (s' : Shared) (z : Nat), k as σ' = true → StepE s₀ W s' W' → HRel X W' σ' s' → P W' σ'.lo s'.heap → s'.heap.get? D = some (lstObj vs z) → VRs X W' as vs → ¬ Own W' D → R (.ok .next) s') :
    codeAny (model X.prog X.w) A (.compLoop (.ListComp ee [⟨te, iter, [], 0⟩] scope pos) 0 (.ref I) (.ref D) cenv) R s := by
  refine compLoop_any (fun f s' => ∃ j acc vs σ' W' z, f + j = 100 ∧ vs.length = j ∧ compN sel m t i f j acc σ' k = true ∧ Step (fun b => b = C ∨ b = D ∨ b = I) s W s' W' ∧ HRel X W' σ' s' ∧ P W' σ'.lo s'.heap ∧ It s'.heap I p j ∧ s'.heap.get? D = some (lstObj vs z) ∧ VRs X W' acc.reverse vs)
    ?_ 100 ⟨0, [], [], σ, W, 0, rfl, rfl, h, .refl .., H, hP, it, hD, .nil⟩
  rintro f s' ⟨j, acc, vs, σ', W', z, hf, hj, hm, x', H', P', it', gD, V'⟩
  cases f with
  | zero => cases hm
  | succ f =>
    have hm : σ'.hp.get i (fun o => sel j o (fun _ => k (revA acc []) σ') fun x => t x σ' fun σ => m σ fun v σ => forceN (Nat.succ j) fun j => compN sel m t i f j (v :: acc) σ k) = true := hm
    obtain ⟨o, ho, h1⟩ := T.get_ok hm
    have hp' := x'.le.ρ i p hp
    obtain ⟨o', ho', ro⟩ := H'.obj i p hp'
    rw [ho] at ho'; cases ho'
    have notOwn : ∀ {s₁ s₂ : Shared} {W₁ W₂ : Wd} {b : Addr} {D' : Addr → Prop}, Step D' s₁ W₁ s₂ W₂ → ¬ Own W₁ b → (s₁.heap.get? b).isSome = true → ¬ Own W₂ b := fun x n g q => by
      rcases x.own _ q with z | z
      · exact n z
      · rw [z] at g; cases g
    have nI' : ¬ Own W' I := notOwn x' nI (KI.ex _ _ _ _ it)
    have nD' : ¬ Own W' D := notOwn x' nD (by rw [hD]; rfl)
    rcases KI.step A s' W' p o j _ _ I hA ro it' h1 with ⟨h2, q⟩ | ⟨a, v, V, h2, q⟩
    · refine q _ _ fun h' k' => ?_
      have gone : ∀ b, (b = C ∨ b = D ∨ b = I) → (s₀.heap.get? b).isSome = true → False := fun b hb hs => by
        rcases hb with rfl | rfl | rfl
        · rw [zC] at hs; cases hs
        · rw [zD] at hs; cases hs
        · rw [zI] at hs; cases hs
      have x3 : StepE s₀ W { s' with heap := h' } W' := x'.since k0 os (fun b o nd g => k' b o (fun q => nd (.inr (.inr q))) g) rfl (fun b hb hs => (gone b hb hs).elim) fun b hb hs => (gone b hb hs).elim
      have H₁ : HRel X W' σ' { s' with heap := h' } := H'.but (fun b o nb g => k' b o nb g) nI' hI0 s'.toks
      rw [revA_eq, List.append_nil] at h2
      exact Cn _ vs σ' W' _ z h2 x3 H₁ (hPb P' fun b o nb g => k' b o nb g) (k' D _ hDI gD) V' nD'
    · refine q _ _ fun h' tk i' k' => ?_
      have x2 : Step (fun b => b = D ∨ b = I) s' W' { s' with heap := h', toks := tk } W' := ⟨.refl _, fun b o g _ nd => k'.extBut b o (fun q => nd (.inr q)) g, fun _ z => .inl z, fun b hb => by
        by_cases q : b = I
        · subst q; exact KI.ex _ _ _ _ i'
        · obtain ⟨o, g⟩ := Option.isSome_iff_exists.mp hb
          show (h'.get? b).isSome = true
          rw [k'.extBut b o q g]; rfl, rfl⟩
      have H₁ : HRel X W' σ' { s' with heap := h', toks := tk } := H'.but (fun b o nb g => k'.extBut b o nb g) nI' hI0 tk
      have P₁ := hPs P' x2
      have gD₁ : h'.get? D = some (lstObj vs z) := k'.extBut D _ hDI gD
      refine hgo _ _ _ (j + 1) v i' ?_
      refine ht a σ' _ h2 _ _ W' _ v H₁ P₁ V fun σ₂ W₂ s₂ h₃ x₃ H₂ P₂ => ?_
      have nI₂ : ¬ Own W₂ I := notOwn x₃ nI' (KI.ex _ _ _ _ i')
      have nD₂ : ¬ Own W₂ D := notOwn x₃ nD' (by show (h'.get? D).isSome = true; rw [gD₁]; rfl)
      have it₂ : It s₂.heap I p (j + 1) := KI.frame _ _ _ _ _ i' fun o g => x₃.keep I o g nI' (Ne.symm hCI)
      have gD₂ : s₂.heap.get? D = some (lstObj vs z) := x₃.keep D _ gD₁ nD' hDC
      refine he σ₂ _ h₃ _ s₂ W₂ _ H₂ P₂ fun w σ₃ W₃ s₃ b h₄ e₄ x₄ H₃ V₃ => ?_
      have nI₃ : ¬ Own W₃ I := notOwn x₄ nI₂ (KI.ex _ _ _ _ it₂)
      have nD₃ : ¬ Own W₃ D := notOwn x₄ nD₂ (by rw [gD₂]; rfl)
      have it₃ : It s₃.heap I p (j + 1) := KI.frame _ _ _ _ _ it₂ fun o g => x₄.keep I o g nI₂ id
      have gD₃ : s₃.heap.get? D = some (lstObj vs z) := x₄.keep D _ gD₂ nD₂ id
      have P₃ : P W₃ σ₃.lo s₃.heap := by rw [e₄]; exact hPs P₂ x₄.to
      have h₄ := forceN_ok h₄
      refine wpAny_list_append_plain (items := vs.toArray) ⟨z, gD₃⟩ (fun h₅ pl sb => ?_) (by have := sizeLine_ge; rw [List.size_toArray]; omega)
      obtain ⟨z', gD₅⟩ := pl
      have x5 : Step (fun b => b = D ∨ b = I) s₃ W₃ { s₃ with heap := h₅ } W₃ := ⟨.refl _, fun b o g _ nd => sb.extBut b o (fun q => nd (.inl q)) g, fun _ z => .inl z, fun b hb => by
        by_cases q : b = D
        · subst q; show (h₅.get? b).isSome = true; rw [gD₅]; rfl
        · obtain ⟨o, g⟩ := Option.isSome_iff_exists.mp hb
          show (h₅.get? b).isSome = true
          rw [sb.extBut b o q g]; rfl, rfl⟩
      have H₅ : HRel X W₃ σ₃ { s₃ with heap := h₅ } := H₃.but (fun b o nb g => sb.extBut b o nb g) nD₃ hD0 s₃.toks
      have w1 : Step (fun b => b = C ∨ b = D ∨ b = I) s W { s₃ with heap := h₅ } W₃ := (((x'.trans (x2.weak fun b => .inr)).trans (x₃.weak fun b => .inl)).trans x₄.to).trans (x5.weak fun b => .inr)
      refine ⟨f, Nat.lt_succ_self f, j + 1, w :: acc, vs ++ [b], σ₃, W₃, z', by omega, by simp [hj], h₄, w1, H₅, hPs P₃ x5, KI.frame _ _ _ _ _ it₃ fun o g => sb.extBut I o (Ne.symm hDI) g, ?_, ?_⟩
      · show h₅.get? D = _
        rw [gD₅]; simp [lstObj]
      · rw [List.reverse_cons]
        exact (VRs.le ((Wd.Le.trans x₃.le x₄.le)) V').append (.cons V₃ .nil)
end
section
variable {X : Cx} {n : Nat} {sc : List (Str × NameKind)}
noncomputable def Self (X : Cx) (It : Heap → Addr → Addr × Addr → Nat → Prop) : Prop := ∀ (A : Around) (s : Shared) (I : Addr) (p : Addr × Addr) (j : Nat), It s.heap I p j → ∀ (E : Value → Shared → Prop) (Q : Value → Shared → Prop), Q (.ref I) s → wpAny (model X.prog X.w) A (pyIter (.ref I)) Q E s
theorem iter_ok2 {A : Around} {W : Wd} {s : Shared} {p : Addr × Addr} {o : AO} {f : SEL → Bool} (ro : RO X W s.heap p o) (h : onIter o f = true) :
    ∃ sel It, ItK X sel It ∧ Self X It ∧ f sel = true ∧ ∀ (E : Value → Shared → Prop) (Q : Value → Shared → Prop), (∀ ob : Obj, ob.isFreed = false → It (s.heap.push ob) s.heap.objs.size p 0 → Q (.ref s.heap.objs.size) { s with heap := s.heap.push ob }) → wpAny (model X.prog X.w) A (pyIter (.ref p.1)) Q E s := by
  cases o <;> try exact (nomatch (show false = true from h))
  · obtain ⟨l1, vs, n1, g1, V1⟩ := ro
    exact ⟨selL, _, itK_list, fun A s I p j it E Q q => wpAny_pyIter_listiter it q, h, fun E Q q => wpAny_pyIter_list ⟨_, g1, rfl, _, rfl⟩ (q _ rfl ⟨_, Heap.get?_push_size _ rfl, rfl, rfl⟩)⟩
  · obtain ⟨l1, vs, n1, g1, V1⟩ := ro
    exact ⟨selT, _, itK_tup, fun A s I p j it E Q q => wpAny_pyIter_tupleiter it q, h, fun E Q q => wpAny_pyIter_tuple ⟨_, g1, rfl, _, rfl⟩ (q _ rfl ⟨_, Heap.get?_push_size _ rfl, rfl, rfl⟩)⟩
  · rename_i a b
    obtain ⟨ta, tb, tc, g1⟩ := ro
    obtain ⟨ha, h1⟩ := br_false h
    obtain ⟨hb, h2⟩ := br_false h1
    have ha := smallI_ok ha
    have hb := smallI_ok hb
    have hs : Builtin.Range.small a b 1 = true := by
      unfold Builtin.Range.small
      rw [rangeSize_one]
      have : ∀ x : Int, x.natAbs ≤ 3000000000 → Builtin.Range.rangeFitsLong x = true := fun x hx => by unfold Builtin.Range.rangeFitsLong; simp; omega
      rw [this a (by omega), this b (by omega), this 1 (by decide)]
      rw [this (if a < b then b - a else 0) (by split <;> omega)]
      rw [if_pos (show (1 : Int) > 0 by decide), this (b + (1 - 1)) (by omega)]
      simp
    refine ⟨selR a b, _, itK_range a b, fun A s I p j it E Q q => wpAny_pyIter_rangeiter it q, h2, fun E Q q => wpAny_pyIter_range g1 hs (q _ rfl ?_)⟩
    have : a + ((0 : Nat) : Int) = a := by omega
    have e2 : Builtin.Range.rangeSize a b 1 - ((0 : Nat) : Int) = Builtin.Range.rangeSize a b 1 := by omega
    rw [this, e2]
    exact Heap.get?_push_size _ rfl
theorem nx_fresh {W : Wd} {σ : St} {s : Shared} (H : HRel X W σ s) {b : Addr} (g : s.heap.get? b = none) : ¬ Own W b ∧ X.h₀.get? b = none := by
  refine ⟨fun q => (by have := H.ex _ q; rw [g] at this; cases this), ?_⟩
  cases q : X.h₀.get? b with
  | none => rfl
  | some o => rw [H.base _ _ q] at g; cases g
theorem comp_end {W W' : Wd} {σ' : St} {s₀ s' : Shared} {lo : FL} {C D : Addr} {as : List AV} {vs : List Value} {z : Nat} {k : K} {Q : Value → Shared → Prop} (h : setLo σ' lo (fun σ' => cap as (new σ' (.list as) k)) = true) (x : StepE s₀ W s' W') (H : HRel X W' σ' s')
    (gD : s'.heap.get? D = some (lstObj vs z)) (V : VRs X W' as vs) (nD : ¬ Own W' D) (nC : ¬ Own W' C) (D0 : X.h₀.get? D = none) (C0 : X.h₀.get? C = none) (zD : s₀.heap.get? D = none) (zC : s₀.heap.get? C = none) (hDC : D ≠ C)
    (Co : ∀ v σ₂ W₂ s₂ a, k v σ₂ = true → σ₂.lo = lo → StepE s₀ W s₂ W₂ → HRel X W₂ σ₂ s₂ → VR X W₂ v a → Q a s₂) (h' : Heap) (sb : Heap.SameBut C s'.heap h') : Q (.ref D) { s' with heap := h' } := by
  have h1 := setLo_ok h
  obtain ⟨hc, h2⟩ := cap_ok h1
  obtain ⟨hp, e, h3⟩ := new_ok h2
  have k' : ∀ b o, b ≠ C → s'.heap.get? b = some o → h'.get? b = some o := fun b o q g => sb.extBut b o q g
  have H₁ : HRel X W' σ' { s' with heap := h' } := H.but k' nC C0 s'.toks
  have g' : h'.get? D = some (lstObj vs z) := k' _ _ hDC gD
  have H₂ := (H₁.lo lo).adopt (D := D) (o := .list as) (hp := hp) g' nD D0 ⟨hc, vs, z, g', V.le (Wd.add_le ..)⟩ e
  have x₂ : StepE s₀ W { s' with heap := h' } (W'.add (D, D)) := ⟨x.le.trans (Wd.add_le ..), fun b o g n d => k' b o (fun q => by rw [q, zC] at g; cases g) (x.keep b o g n d), fun b hb => by
    rcases own_add.mp hb with z | z | z
    · exact x.own b z
    · exact .inr (by rw [show b = D from z]; exact zD)
    · exact .inr (by rw [show b = D from z]; exact zD), fun b hb => by
    obtain ⟨o, g⟩ := Option.isSome_iff_exists.mp (x.stay b hb)
    show (h'.get? b).isSome = true
    rw [k' b o (fun q => by rw [q, zC] at hb; cases hb) g]; rfl, x.os⟩
  refine Co _ _ _ _ _ h3 rfl x₂ H₂ ⟨(D, D), ?_, rfl⟩
  show (W'.ρ ++ [_])[σ'.nx]? = _
  rw [H.nx, List.getElem?_append_right (Nat.le_refl _), Nat.sub_self]; rfl
theorem comp_go {sel : SEL} {It : Heap → Addr → Addr × Addr → Nat → Prop} (KI : ItK X sel It) (KS : Self X It) {t : MT} {m : M} {te ee ie : Expr} {scope : Scope} {pos : Pos} {env : Env} {L : Addr} (hE : EnvOk X sc env L) {A : Around} (hA : Room n A)
    (hcell : ∀ x ∈ scope.names, x.2 ≠ .cell) (hkind : scope.kind = .function) (ht : SimG X n scope.names t te) (hm : SimE X n scope.names m ee) {i : Nat} {p : Addr × Addr} {σ : St} {k : K}
    (hgo : ∀ (I : Addr) (s : Shared) (E : Value → Shared → Prop) (Q : Unit → Shared → Prop) (j : Nat) (v : Value), It s.heap I p j → Q () s → wpAny (model X.prog X.w) A (letOwnedTupleGo te (.ref I) v) Q E s)
    (h : setLo σ .nil (fun σ' => compN sel m t i 100 0 [] σ' fun vs σ' => setLo σ' σ.lo fun σ' => cap vs (new σ' (.list vs) k)) = true) {E : Value → Shared → Prop} {s : Shared} {W : Wd} {Q : Value → Shared → Prop} (hp : W.ρ[i]? = some p) (H : HRel X W σ s)
    (Co : Cont X σ s W k Q) {ob : Obj} (hf : ob.isFreed = false) (it : It (s.heap.push ob) s.heap.objs.size p 0) :
    wpAny (model X.prog X.w) A (newList []) (fun acc s₃ => wpAny (model X.prog X.w) A (newFunctionEnv scope env.globals [] [] env.qual none .none (some env)) (fun cenv s₄ =>
        codeAny (model X.prog X.w) A (.compStart (.ListComp ee [⟨te, ie, [], 0⟩] scope pos) 0 (.ref s.heap.objs.size) acc { cenv with scope := scope })
          (fun r s' => ∃ m, s'.heap.Ns cenv.locals m ∧ ∀ h', Heap.SameBut cenv.locals s'.heap h' →
            match r with | .ok _ => Q acc { s' with heap := h' } | .error x => wpAny (model X.prog X.w) A (passOn "comprehension.variables-let-go" x { cenv with scope := scope }) Q E { s' with heap := h' }) s₄) E s₃) E { s with heap := s.heap.push ob } := by
  refine wpAny_newObj_type (wpAny_newFunctionEnv hcell (by intro y hy; simp at hy) (fun h₁ hns₁ hsb₁ => ?_) hkind)
  dsimp only at hns₁ hsb₁ ⊢
  have s1 : (s.heap.push ob).objs.size = s.heap.objs.size + 1 := Heap.size_push ..
  generalize hH1 : s.heap.push ob = H1 at hns₁ hsb₁ it s1 ⊢
  have s2 : (H1.push { cls := .type "list", dict := none, data := .seq ([] : List Value).toArray }).objs.size = s.heap.objs.size + 2 := by rw [Heap.size_push, s1]
  generalize hH2 : H1.push { cls := .type "list", dict := none, data := .seq ([] : List Value).toArray } = H2 at hns₁ hsb₁ s2 ⊢
  have up1 : ∀ b o, s.heap.get? b = some o → H1.get? b = some o := fun b o g => hH1 ▸ Heap.get?_push_of_some _ g
  have up2 : ∀ b o, H1.get? b = some o → H2.get? b = some o := fun b o g => hH2 ▸ Heap.get?_push_of_some _ g
  have up3 : ∀ b o, H2.get? b = some o → h₁.get? b = some o := fun b o g => hsb₁.extBut b o (Nat.ne_of_lt (Heap.lt_size g)) (Heap.get?_push_of_some _ g)
  have k0 : ∀ b o, s.heap.get? b = some o → h₁.get? b = some o := fun b o g => up3 _ _ (up2 _ _ (up1 _ _ g))
  have zI := fresh_none s.heap
  have zD : s.heap.get? H1.objs.size = none := none_beyond _ (by rw [s1]; omega)
  have zC : s.heap.get? H2.objs.size = none := none_beyond _ (by rw [s2]; omega)
  have gD : h₁.get? H1.objs.size = some (lstObj [] 0) := up3 _ _ (hH2 ▸ Heap.get?_push_size _ rfl)
  have it₁ : It h₁ s.heap.objs.size p 0 := KI.frame _ _ _ _ _ it fun o g => up3 _ _ (up2 _ _ g)
  have hDI : H1.objs.size ≠ s.heap.objs.size := by rw [s1]; omega
  have hDC : H1.objs.size ≠ H2.objs.size := by rw [s1, s2]; omega
  have hCI : H2.objs.size ≠ s.heap.objs.size := by rw [s2]; omega
  obtain ⟨H', S'⟩ := H.grow k0 (s.toks + ([] : List (Str × Value)).length)
  have hn1 : scope.names = scope.names := rfl
  have eC : EnvOk X scope.names { newEnv scope H2.objs.size env.globals [] env.qual none .none (some env) 0 with scope := scope } H2.objs.size := ⟨hkind, rfl, rfl, hE.glob, hE.blt⟩
  refine codeAny_compStart_list ?_ (KS A _ _ p 0 it₁ _ _ ?_) <;>
  · refine comp_ok KI hA.hand (fun W lo h => LRel X W H2.objs.size lo h) (fun s E Q j v => hgo _ s E Q j v) (fun {W W' lo s s'} P x => P.step x (by rintro (q | q); exact hDC q.symm; exact hCI q))
      (fun v σ k h E s W Q a H P V C => ht _ _ eC A hA v σ k h E s W Q a H P V C) (fun {W lo h h'} P k => P.but k hCI) (fun σ k h E s W Q H P C => hm _ _ eC A hA σ k h E s W Q H P C) (setLo_ok h) hp it₁ gD (H'.lo .nil)
      ⟨_, hns₁, fun x => rfl, (nx_fresh H zC).1, (nx_fresh H zC).2⟩ (nx_fresh H zD).1 (nx_fresh H zI).1 (nx_fresh H zD).2 (nx_fresh H zI).2 hDI hDC hCI (s₀ := s) k0 rfl zI zD zC ?_
    intro as vs σ' W' s' z hk x' H'' P' gD' V' nD'
    obtain ⟨mm, hn, hfr, nC', C0'⟩ := id P'
    exact ⟨mm, hn, fun h' sb => comp_end hk x' H'' gD' V' nD' nC' (nx_fresh H zD).2 C0' zD zC hDC (fun v σ₂ W₂ s₂ a h₂ e₂ x₂ H₂ V₂ => Co v σ₂ W₂ s₂ a h₂ e₂ x₂ H₂ V₂) h' sb⟩
theorem SimE.comp {t : MT} {m mi : M} {te ee ie : Expr} {scope : Scope} {pos : Pos} (hs : ∀ env x, foldedSetIterable ie env x = pure x) (hfree : ∀ x ∈ scope.names, x.2 ≠ .free) (hcell : ∀ x ∈ scope.names, x.2 ≠ .cell) (hkind : scope.kind = .function)
    (hnames : ∀ x ∈ scope.names, x.2 = .local → scope.names.lookup x.1 = some .local) (hgo : ∀ it v, letOwnedTupleGo te it v = pure ()) (ht : SimG X n scope.names t te) (hm : SimE X n scope.names m ee) (hi : SimE X n sc mi ie) :
    SimE X n sc (comp noLo m t mi) (.ListComp ee [⟨te, ie, [], 0⟩] scope pos) := by
  intro env L hE A hA σ k h E s W Q H hL Co
  refine wpAny_ListComp hfree hkind hnames (hi env L hE A hA σ _ h E s W _ H hL fun v σ₁ W₁ s₁ va h₁ e₁ x₁ H₁ V₁ => ?_) (hs env)
  obtain ⟨i, rfl, h2⟩ := onOwn_ok h₁
  obtain ⟨p, o, hp, rfl, ho, ro, h3⟩ := own_obj H₁ V₁ h2
  obtain ⟨sel, It, KI, KS, h4, q⟩ := iter_ok2 (A := A) ro h3
  exact q _ _ fun ob hf it => comp_go KI KS hE hA hcell hkind ht hm (fun I s E Q j v _ q => wpAny_of_eq (hgo _ _) q) h4 hp H₁ (Co.step e₁ x₁) hf it
theorem SimE.compL {t : MT} {m mi : M} {ee ie : Expr} {elts : List Expr} {kk : Nat} {tpos : Pos} {scope : Scope} {pos : Pos} (hs : ∀ env x, foldedSetIterable ie env x = pure x) (hfree : ∀ x ∈ scope.names, x.2 ≠ .free) (hcell : ∀ x ∈ scope.names, x.2 ≠ .cell) (hkind : scope.kind = .function)
    (hnames : ∀ x ∈ scope.names, x.2 = .local → scope.names.lookup x.1 = some .local) (ht : SimG X n scope.names t (.Tuple elts kk tpos)) (hm : SimE X n scope.names m ee) (hi : SimE X n sc mi ie) :
    SimE X n sc (Mine.compL m t mi) (.ListComp ee [⟨.Tuple elts kk tpos, ie, [], 0⟩] scope pos) := by
  intro env L hE A hA σ k h E s W Q H hL Co
  refine wpAny_ListComp hfree hkind hnames (hi env L hE A hA σ _ h E s W _ H hL fun v σ₁ W₁ s₁ va h₁ e₁ x₁ H₁ V₁ => ?_) (hs env)
  obtain ⟨i, rfl, h2⟩ := onOwn_ok h₁
  have h3 := setLo_ok h2
  have h4 : σ₁.hp.get i (fun o => selL 0 o _ _) = true := h3
  obtain ⟨p, o, hp, rfl, ho, ro, h5⟩ := own_obj (σ := σ₁) H₁ V₁ h4
  obtain ⟨xs, rfl, h6⟩ := onList_ok h5
  obtain ⟨l1, vs, n1, g1, V⟩ := ro
  refine wpAny_pyIter_list ⟨_, g1, rfl, _, rfl⟩ ?_
  refine comp_go itK_list (fun A s I p j it E Q q => wpAny_pyIter_listiter it q) hE hA hcell hkind ht hm (fun I s E Q j v it q => ?_) h2 hp H₁ (Co.step e₁ x₁) rfl ⟨_, Heap.get?_push_size _ rfl, rfl, rfl⟩
  cases v <;> first | exact wpAny_letOwnedTupleGo_listiter it q | exact wpAny_pure q
end
section
variable (X : Cx) (n : Nat)
noncomputable def BSim (f : MF) (fv : Value) : Prop := ∀ (A : Around), Room n A → ∀ (as : List AV) (σ : St) (k : K), f as σ k = true → ∀ (E : Value → Shared → Prop) (s : Shared) (W : Wd) (Q : Value → Shared → Prop) (vs : List Value),
  HRel X W σ s → VRs X W as vs → Cont X σ s W k Q → wpAny (model X.prog X.w) A (call fv vs) Q E s
noncomputable def MSim (f : Nat → AO → List AV → St → K → Bool) (id : String) : Prop := ∀ (A : Around), Room n A → ∀ (i : Nat) (o : AO) (a : AV) (σ : St) (k : K), f i o [a] σ k = true → ∀ (E : Value → Shared → Prop) (s : Shared) (W : Wd) (Q : Value → Shared → Prop) (p : Addr × Addr) (v : Value),
  HRel X W σ s → W.ρ[i]? = some p → RO X W s.heap p o → VR X W a v → Cont X σ s W k Q → wpAny (model X.prog X.w) A (call (.builtin id) [.ref p.1, v]) Q E s
end
noncomputable def kName : Nat → String
  | 1 => "list"
  | 4 => "bytearray"
  | _ => "dict"
section
variable {X : Cx} {n : Nat} {sc : List (Str × NameKind)}
theorem keeps_v {f : Value} (h : ∀ a, f ≠ .ref a) {M : Model} (hp : Heap) (_ : True) : ∃ k, (k = Keeper.frame ∨ k = Keeper.machine ∨ k = Keeper.boundFrame) ∧ Looks M hp (keeperOf f) k :=
  ⟨.machine, .inr (.inl rfl), Looks.of_pure (by cases f <;> first | rfl | exact absurd rfl (h _))⟩
theorem SimE.callB {f : MF} {fv : Value} {ms : ML} {es : List Expr} {x : Str} {p pos : Pos} (hg : nsIn X.F X.G x = some none) (hb : nsIn X.F X.B x = some (some fv)) (hr : ∀ a, fv ≠ .ref a) (hl : sc.lookup x = some .globalImplicit) (hd : (x == ("__debug__" : Str)) = false)
    (hp : ∀ (env : Env), (backTo pos (starEach es env)).any (·.1) = false) (hf : BSim X n f fv) (hs : SimL X n sc ms es) : SimE X n sc (callB f ms) (.Call (.Name x p) es [] pos) := by
  intro env L hE A hA σ k h E s W Q H hL C
  refine wpAny_Call_Name_kw (builtin_ok hE hg hb hl hd H ?_)
  refine callWith_of (P := fun _ => True) (by rw [hp env]; rfl) (keeps_v hr) (evalArgs_of (hp env) (hs pos env L hE A hA σ _ h E s W _ H hL fun vs σ₁ W₁ s₁ as h₁ l₁ e₁ x₁ H₁ V₁ => ⟨trivial, ?_⟩))
  exact hf A hA vs σ₁ k h₁ E s₁ W₁ Q as H₁ V₁ (C.step e₁ x₁)
theorem isKind_ok {T : Nat} {o : AO} {b : Bool} (h : isKind T o b = true) {W : Wd} {s : Shared} {p : Addr × Addr} (r : RO X W s.heap p o) : b = true ∧ s.TypeIs (.ref p.1) (kName T) ∧ ∃ ob, s.heap.get? p.1 = some ob ∧ ob.dict = none := by
  cases o <;> try exact (nomatch (show false = true from h))
  · obtain ⟨h0, h⟩ := br_false h
    obtain ⟨l1, vs, n1, g1, V1⟩ := r
    rw [Nat.eq_of_beq_eq_true h0]
    exact ⟨h, ⟨_, g1, rfl⟩, _, g1, rfl⟩
  · obtain ⟨h0, h⟩ := br_false h
    obtain ⟨l1, kvs, D, R⟩ := r
    rw [Nat.eq_of_beq_eq_true h0]
    obtain ⟨ob, _, _, g, ex, _⟩ := id D
    exact ⟨h, D.typeIs, ob, g, ex.2.1⟩
  · exact r.elim
  · obtain ⟨h0, h⟩ := br_false h
    obtain ⟨l1, q, g1⟩ := r
    rw [Nat.eq_of_beq_eq_true h0]
    exact ⟨h, ⟨_, g1, rfl⟩, _, g1, rfl⟩
theorem SimE.bmeth {T : Nat} {f : Nat → AO → List AV → St → K → Bool} {id : String} {o : M} {m : M} {oe e : Expr} {x : Str} {apos pos : Pos} (pa : PlainAttrs (kName T)) (slot : Slot (kName T) x id) (hty : typeOf (.builtin id) = pure (.type "method_descriptor"))
    (hst : ∀ env, starEach [e] env = [(false, eval e env)])
    (he : ∀ (env : Env), eval (.Call (.Attribute oe x apos) [e] [] pos) env = (do
      let ov ← eval oe env
      standAt apos.atName
      let (f, first) ← holding [ov] (getMethod ov x (do return (← importBound oe env).getD true))
      callWith pos f first (backTo pos (starEach [e] env)) (backToKw pos (keywordEach [] env))))
    (hf : MSim X n f id) (ho : SimE X n sc o oe) (hm : SimE X n sc m e) : SimE X n sc (Mine.bmeth T f o (cons m nil)) (.Call (.Attribute oe x apos) [e] [] pos) := by
  intro env L hE A hA σ k h E s W Q H hL Co
  refine methodCall_KW (ho env L hE A hA σ _ h E s W _ H hL fun v σ₁ W₁ s₁ va h₁ e₁ x₁ H₁ V₁ => ?_) (he env)
  obtain ⟨i, rfl, h2⟩ := onOwn_ok h₁
  obtain ⟨p, ob, hp, rfl, ho', ro, h3⟩ := own_obj H₁ V₁ h2
  obtain ⟨h4, hT, hD⟩ := isKind_ok h3 ro
  refine getMethod_builtin hT pa slot hty (fun a e => by injection e with e; subst e; exact hD) ?_
  have hpl : (backTo pos (starEach [e] env)).any (·.1) = false := by rw [hst]; rfl
  refine callWith_of (P := fun _ => True) (by rw [hpl]; rfl) (keeps_v (by intro a q; injection q)) (evalArgs_of hpl ?_)
  rw [hst]
  show wpAny (model X.prog X.w) A (spliced ((false, eval e env) :: [])) _ E s₁
  refine spliced_cons (hm env L hE A hA σ₁ _ h4 E s₁ W₁ _ H₁ (hL.lo' x₁ e₁) fun u σ₂ W₂ s₂ vb h₅ e₂ x₂ H₂ V₂ => spliced_nil ⟨trivial, ?_⟩)
  have h6 : σ₂.hp.get i (fun o => f i o [u] σ₂ k) = true := h₅
  obtain ⟨p', o', hp', ep, ho₂, ro₂, h7⟩ := own_obj H₂ (V₁.le x₂.le) h6
  have : p' = p := by
    have := x₂.le.ρ _ _ hp
    rw [hp'] at this
    exact Option.some.inj this
  subst this
  exact hf A hA i o' u σ₂ k h7 E s₂ W₂ Q p' vb H₂ hp' ro₂ V₂ (Co.step (e₂.trans e₁) (x₁.trans x₂))
theorem SimE.neg {m : M} {e : Expr} {pos : Pos} (hm : SimE X n sc m e) : SimE X n sc (neg m) (.UnaryOp .USub e pos) := by
  intro env L hE A hA σ k h E s W Q H hL C
  refine UnaryOp_ (hm env L hE A hA σ _ h E s W _ H hL fun v σ₁ W₁ s₁ va h₁ e₁ x₁ H₁ V₁ => ?_)
  obtain ⟨x, y, t, u, z, ex, rfl, h2, Vz⟩ := iop_ok (X := X) (W := W₁) (f := Int.sub) (a := .int 0) (va := .int 0 0) (k := kV k σ₁) h₁ ⟨0, rfl⟩ V₁
  injection ex with ex _
  subst ex
  refine neg_int (C _ _ _ _ _ h2 e₁ (x₁.trans (Step.toks _)) (H₁.toks _) ?_)
  have : Int.sub 0 y = -y := by show 0 - y = -y; omega
  rw [← this]; exact Vz _
theorem upd_rel {W : Wd} {σ : St} {s : Shared} {i : Nat} {p : Addr × Addr} {o : AO} {k : K} {r : AV} {Q : Value → Shared → Prop} (H : HRel X W σ s) (hp : W.ρ[i]? = some p) (h : upd σ i o (k r) = true) {h' : Heap} (sb : Heap.SameBut p.1 s.heap h') (g : (h'.get? p.1).isSome = true)
    (ro : RO X W h' p o) {v : Value} (V : VR X W r v) (C : Cont X σ s W k Q) (t : Nat) : Q v { s with heap := h', toks := t } := by
  obtain ⟨hp2, e, h2⟩ := upd_ok h
  have x2 : (h'.get? p.2).isSome = true := by
    by_cases q : p.2 = p.1
    · rw [q]; exact g
    · rw [sb.2 _ q]; exact H.ex _ ⟨p, List.mem_of_getElem? hp, .inr rfl⟩
  obtain ⟨H', S'⟩ := H.upd (h' := h') (t := t) (o := o) (hp := hp2) hp (fun b n1 n2 => sb.2 b n1) g x2 ro e
  exact C _ _ _ _ _ h2 rfl S' H' V
theorem b_append : MSim X n m_append "list.append" := by
  intro A hA i o a σ k h E s W Q p v H hp ro V C
  obtain ⟨xs, rfl, h⟩ := onList_ok h
  have h : app xs [a] (fun zs => cap zs (upd σ i (.list zs) (k .none))) = true := h
  obtain ⟨hz, h⟩ := cap_ok (app_ok h)
  obtain ⟨l1, vs, n1, g1, V1⟩ := ro
  refine wpAny_list_append_plain (items := vs.toArray) ⟨n1, g1⟩ (fun h₅ pl sb => ?_) (by have := sizeLine_ge; rw [List.size_toArray, V1.length]; omega)
  obtain ⟨z', g5⟩ := pl
  refine upd_rel H hp h sb (by rw [g5]; rfl) ⟨hz, vs ++ [v], z', ?_, V1.append (.cons V .nil)⟩ rfl C s.toks
  rw [g5]; simp
end
section
variable {X : Cx} {n : Nat}
theorem seq_upd {h : Heap} {a : Addr} {vs : List Value} {z : Nat} {f : Array Value → Array Value} (g : h.get? a = some (lstObj vs z)) : ∃ z', (h.update a (Obj.mapSeq f)).get? a = some (lstObj (f vs.toArray).toList z') := by
  have := get?_update_seq (c := "list") (xs := vs.toArray) (n := z) g f
  exact ⟨_, by rw [this]⟩
theorem b_extend : MSim X n m_extend "list.extend" := by
  intro A hA i o a σ k h E s W Q p v H hp ro V C
  obtain ⟨xs, rfl, h⟩ := onList_ok h
  have h : onOwn a (fun j => σ.hp.get j fun p => onList p fun ys => app xs ys fun zs => cap zs (upd σ i (.list zs) (k .none))) = true := h
  obtain ⟨j, rfl, h⟩ := onOwn_ok h
  obtain ⟨p', o', hp', rfl, ho', ro', h⟩ := own_obj H V h
  obtain ⟨ys, rfl, h⟩ := onList_ok h
  obtain ⟨hz, h⟩ := cap_ok (app_ok h)
  obtain ⟨l1, vs, n1, g1, V1⟩ := ro
  obtain ⟨l2, ws, n2, g2, V2⟩ := ro'
  have z := sizeLine_ge
  have e1 := V1.length
  have e2 := V2.length
  have zl : ¬ (!vs.toArray.isEmpty && Builtin.List.listTooLong (vs.toArray.size + ws.toArray.size)) = true := by
    have : Builtin.List.listTooLong (vs.toArray.size + ws.toArray.size) = false := by
      simp only [Builtin.List.listTooLong, decide_eq_false_iff_not, List.size_toArray]; omega
    rw [this]; simp
  refine call_meets PySem.F.slot_list_extend ⟨_, g1, rfl⟩ PySem.F.entry_list_extend (PySem.F.args_list_extend_2 _ _)
    (AutoSeq1.list_extend_list_list_0 p.1 vs.toArray n1 p'.1 ws.toArray n2 zl (by rw [List.size_toArray]; omega) (by rw [List.size_toArray, List.size_toArray]; omega)) ⟨g1, g2, ?_⟩
  obtain ⟨z', g3⟩ := seq_upd (f := fun x => x ++ ws.toArray) g1
  refine upd_rel H hp h (Heap.SameBut.update ..) (by rw [g3]; rfl) ⟨hz, vs ++ ws, z', ?_, V1.append V2⟩ rfl C s.toks
  rw [g3]; simp
theorem popL_ok {xs : List AV} {x : Int} {i : Nat} {σ : St} {k : K} (h : popL xs x i σ k = true) : ∃ v r, xs = v :: r ∧ x = 0 ∧ upd σ i (.list r) (k v) = true := by
  cases xs with
  | nil => exact (nomatch (show false = true from h))
  | cons v r =>
    obtain ⟨h1, h2⟩ := br_false (b := eqb x 0) (x := upd σ i (.list r) (k v)) h
    exact ⟨v, r, rfl, eqb_iff.mp h1, h2⟩
theorem b_pop : MSim X n m_pop "list.pop" := by
  intro A hA i o a σ k h E s W Q p v H hp ro V C
  have h : con a σ (fun x σ => onList o fun xs => popL xs x i σ k) = true := h
  obtain ⟨x, t, σ', rfl, h, e, H'⟩ := con_ok H V h
  obtain ⟨xs, rfl, h⟩ := onList_ok h
  obtain ⟨u, r, rfl, rfl, h⟩ := popL_ok h
  obtain ⟨l1, vs, n1, g1, V1⟩ := ro
  cases V1 with
  | @cons _ y _ ys V V1 =>
  have z := sizeLine_ge
  have e1 := V1.length
  rw [List.length_cons] at l1
  refine call_meets PySem.F.slot_list_pop ⟨_, g1, rfl⟩ PySem.F.entry_list_pop (PySem.F.args_list_pop_2 _ _) (MeetsSeq.list_pop_at p.1 (y :: ys).toArray n1 0 t 0 y (by decide) (by simp [seqIndex?]) (by simp) (by simp; omega)) ⟨g1, ?_⟩
  obtain ⟨z', g3⟩ := seq_upd (f := fun xs => xs.eraseIdxIfInBounds 0) g1
  refine upd_rel H' hp h (Heap.SameBut.update ..) (by rw [g3]; rfl) ⟨by omega, ys, z', ?_, V1⟩ V (C.step e.lo (.refl ..)) s.toks
  rw [g3]; simp [lstObj]
theorem b_popD : MSim X n m_popD "dict.pop" := by
  intro A hA i o a σ k h E s W Q p v H hp ro V C
  have h : con a σ (fun x σ => onDict o fun es => ddel es x fun v es' => upd σ i (.dict es') (k v)) = true := h
  obtain ⟨x, t, σ', rfl, h, e, H'⟩ := con_ok H V h
  cases o <;> try exact (nomatch (show false = true from h))
  rename_i es
  obtain ⟨l1, kvs, D, R⟩ := ro
  obtain ⟨ob, es0, ep, g0, ex0, hd0, hk0, hP0, hnd⟩ := id D
  obtain ⟨a, u, es', h, e1, V', R'⟩ := ddel_ok R hnd h
  refine call_meetsIn PySem.F.slot_dict_pop D.typeIs PySem.F.entry_dict_pop (PySem.F.args_dict_pop_2 _ _) (meets_dict_pop_there (intKind X.prog X.w) p.1 (isInt_int x t) [] (.inl rfl) rfl) ⟨kvs, u, D, by rw [R.length]; have := sizeLine_ge; omega, e1, fun h' D' sb => ?_⟩
  have g' : (h'.get? p.1).isSome = true := by obtain ⟨o', _, _, g', _⟩ := D'; rw [g']; rfl
  have lz : es'.length ≤ 10000 := by
    have := R'.length
    have q : (without kvs x).length ≤ kvs.length := by unfold without; exact List.length_filter_le ..
    rw [R.length] at q; omega
  exact upd_rel H' hp h sb g' ⟨lz, _, D', R'⟩ V' (C.step e.lo (.refl ..)) _
theorem allI_ok {W : Wd} : ∀ {l : List AV} {vs : List Value} {b : Bool}, VRs X W l vs → allI l b = true → b = true ∧ ∀ v ∈ vs, ∃ y t, v = .int y t
  | _, _, b, .nil, h => ⟨h, fun v hv => by simp at hv⟩
  | a :: l, v :: vs, b, .cons V Vs, h => by
    cases a <;> try exact (nomatch (show false = true from h))
    obtain ⟨t, rfl⟩ := V
    obtain ⟨h1, h2⟩ := allI_ok (l := l) (b := b) Vs h
    refine ⟨h1, fun v hv => ?_⟩
    rcases List.mem_cons.mp hv with rfl | hv
    · exact ⟨_, _, rfl⟩
    · exact h2 v hv
theorem remI_ok {W : Wd} {x : Int} : ∀ {l : List AV} {vs : List Value} {k : List AV → Bool}, VRs X W l vs → remI l x k = true → (∀ v ∈ vs, ∃ y t, v = .int y t) ∧
    ∃ (j : Nat) (r : List AV) (t : Tok), vs[j]? = some (.int x t) ∧ (∀ (m : Nat) (v : Value), m < j → vs[m]? = some v → isI x v = false) ∧ k r = true ∧ VRs X W r (vs.eraseIdx j)
  | _, _, k, .nil, h => (nomatch (show false = true from h))
  | a :: l, v :: vs, k, .cons V Vs, h => by
    cases a <;> try exact (nomatch (show false = true from h))
    rename_i y
    obtain ⟨t, rfl⟩ := V
    have h' : br (eqb x y) (allI l (k l)) (remI l x fun r' => k (.int y :: r')) = true := h
    clear h
    rw [br_iff] at h'
    rcases h' with ⟨e, h2⟩ | ⟨e, h2⟩
    · have := eqb_iff.mp e
      subst this
      obtain ⟨h3, h4⟩ := allI_ok Vs h2
      refine ⟨fun v hv => ?_, 0, l, t, rfl, fun m v hm => by omega, h3, Vs⟩
      rcases List.mem_cons.mp hv with rfl | hv
      · exact ⟨_, _, rfl⟩
      · exact h4 v hv
    · obtain ⟨h0, j, r, t', h1, h2, h3, h4⟩ := remI_ok Vs h2
      refine ⟨fun v hv => ?_, j + 1, .int y :: r, t', by simpa using h1, fun m v hm hv => ?_, h3, .cons ⟨t, rfl⟩ h4⟩
      · rcases List.mem_cons.mp hv with rfl | hv
        · exact ⟨_, _, rfl⟩
        · exact h0 v hv
      · cases m with
        | zero =>
          simp at hv
          subst hv
          show (y == x) = false
          rw [beq_eq_false_iff_ne]
          rintro rfl
          rw [eqb_iff.mpr rfl] at e; cases e
        | succ m => exact h2 m v (by omega) (by simpa using hv)
theorem b_remove : MSim X n m_remove "list.remove" := by
  intro A hA i o a σ k h E s W Q p v H hp ro V C
  obtain ⟨xs, rfl, h⟩ := onList_ok h
  have h : con a σ (fun x σ => remI xs x fun r => upd σ i (.list r) (k .none)) = true := h
  obtain ⟨x, t, σ', rfl, h, e, H'⟩ := con_ok H V h
  obtain ⟨l1, vs, n1, g1, V1⟩ := ro
  obtain ⟨h0, j, r, tk, h1, h2, h3, h4⟩ := remI_ok V1 h
  have hj : j < vs.length := (List.getElem?_eq_some_iff.mp h1).1
  have hz := sizeLine_ge
  have e1 := V1.length
  have he : ∀ y, y ∈ vs.toArray → MeetsSeq.EqGives y (.int x t) (isI x y) := fun y hy => by
    obtain ⟨z, u, rfl⟩ := h0 y (by simpa using hy)
    exact MeetsSeq.EqGives.int z x u t
  have hit : isI x (vs.toArray[j]'(by simpa using hj)) = true := by
    have : vs[j] = .int x tk := (List.getElem?_eq_some_iff.mp h1).2
    simp [this, isI]
  refine call_meets PySem.F.slot_list_remove ⟨_, g1, rfl⟩ PySem.F.entry_list_remove (PySem.F.args_list_remove_2 _ _) (MeetsSeq.list_remove p.1 vs.toArray n1 (.int x t) (isI x) he j (by simpa using hj) hit (fun m hm hmj => ?_) (by simp; omega)) ⟨g1, ?_⟩
  · refine h2 m _ hmj (by simp)
  · obtain ⟨z', g3⟩ := seq_upd (f := fun xs => xs.eraseIdxIfInBounds j) g1
    have el : (vs.toArray.eraseIdxIfInBounds j).toList = vs.eraseIdx j := by simp [Array.eraseIdxIfInBounds, hj]
    rw [el] at g3
    refine upd_rel H' hp h3 (Heap.SameBut.update ..) (by rw [g3]; rfl) ⟨?_, vs.eraseIdx j, z', g3, h4⟩ rfl (C.step e.lo (.refl ..)) s.toks
    have := h4.length
    rw [List.length_eraseIdx] at this
    split at this <;> omega
end
theorem plainAttrs_bytearray : PlainAttrs "bytearray" :=
  ⟨⟨"bytearray.__getattribute__", by rw [typeLookup_type, builtinLookup_eq_fast]; kernel_rfl, by decide +kernel⟩, by rw [typeLookup_type, builtinLookup_eq_fast]; kernel_rfl⟩
theorem slot_ba_len : Slot "bytearray" "__len__" "bytearray.__len__" :=
  .of (owner := "bytearray") (n := "__len__") (by rw [typeLookup_type, builtinLookup_eq_fast]; kernel_rfl) (by decide +kernel) (by decide +kernel) (by decide +kernel)
    (by first | exact .inl (by decide +kernel) | exact .inr (by decide +kernel)) (by rw [isSubtype_type]; kernel_rfl)
theorem entry_ba_len : entryFor table "bytearray.__len__" = some Builtin.«bytearray.__len__» := entryFor_of_tree (by kernel_rfl)
theorem args_ba_len (a : Value) : argsOk "bytearray.__len__" ⟨[a], []⟩ := by unfold argsOk; kernel_rfl
theorem slot_ba_extend : Slot "bytearray" "extend" "bytearray.extend" :=
  .of (owner := "bytearray") (n := "extend") (by rw [typeLookup_type, builtinLookup_eq_fast]; kernel_rfl) (by decide +kernel) (by decide +kernel) (by decide +kernel)
    (by first | exact .inl (by decide +kernel) | exact .inr (by decide +kernel)) (by rw [isSubtype_type]; kernel_rfl)
theorem type_ba_extend : typeOf (.builtin "bytearray.extend") = pure (.type "method_descriptor") := by show builtinType _ = _; rw [builtinType_eq_fast]; kernel_rfl
theorem entry_ba_extend : entryFor table "bytearray.extend" = some Builtin.«bytearray.extend» := entryFor_of_tree (by kernel_rfl)
theorem args_ba_extend (a b : Value) : argsOk "bytearray.extend" ⟨[a, b], []⟩ := by unfold argsOk; kernel_rfl
section
variable {X : Cx} {n : Nat}
noncomputable abbrev baObj (b : Array UInt8) (z : Nat) : Obj := { cls := .type "bytearray", data := .bytearray b z }
theorem ba_len_meets (a : Addr) (b : Array UInt8) (z : Nat) : Meets (Builtin.«bytearray.__len__» ⟨[.ref a], []⟩) (fun _ R s => s.heap.get? a = some (baObj b z) ∧ R (.ok (.ret (.int b.size s.toks))) { s with toks := s.toks + 1 }) := by
  refine Meets.of_wp fun prog w A R s h => ?_
  obtain ⟨g, h⟩ := h
  unfold Builtin.«bytearray.__len__»
  refine wpAny_bind (wpAny_pure ?_)
  unfold Builtin.Bytes.payload Builtin.Bytes.payload?
  refine wpAny_bind (wpAny_bind (wpAny_bind (wpAny_load g ?_)))
  refine wpAny_pure (wpAny_pure ?_)
  exact wpAny_bind (wpAny_mkInt (wpAny_pure ⟨_, rfl, h⟩))
theorem b_len_ok : BSim X n b_len (.builtin "len") := by
  intro A hA as σ k h E s W Q vs H Vs C
  obtain ⟨a, rfl, h⟩ := arg1_ok h
  cases Vs with
  | @cons _ v _ _ V Vs =>
  cases Vs
  cases a <;> try exact (nomatch (show false = true from h))
  · rename_i l
    obtain ⟨⟨l1, q1⟩, t, rfl⟩ := V
    have h := len_ok (k := kLen k σ) h
    rw [Nat.zero_add] at h
    refine len_bytes (by rw [bytes_size]; omega) (C _ _ _ _ _ h rfl (Step.toks _) (H.toks _) ⟨_, by rw [bytes_size]; rfl⟩)
  · rename_i i
    obtain ⟨p, o, hp, rfl, ho, ro, h⟩ := own_obj H V h
    cases o <;> try exact (nomatch (show false = true from h))
    · rename_i xs
      obtain ⟨l1, vs, n1, g1, V1⟩ := ro
      have h := len_ok (k := kLen k σ) h
      rw [Nat.zero_add] at h
      refine call_len_list (items := vs.toArray) ⟨_, g1, rfl, _, rfl⟩ (by rw [List.size_toArray, V1.length]; omega) (C _ _ _ _ _ h rfl (Step.toks _) (H.toks _) ⟨_, by rw [List.size_toArray, V1.length]; rfl⟩)
    · rename_i l
      obtain ⟨l1, q1, g1⟩ := ro
      have h := len_ok (k := kLen k σ) h
      rw [Nat.zero_add] at h
      refine call_len_slot (T := "bytearray") (id := "bytearray.__len__") (n := ((l.map UInt8.ofNat).toArray.size : Int)) ⟨_, g1, rfl⟩ slot_ba_len (fun Q' q => call_meets slot_ba_len ⟨_, g1, rfl⟩ entry_ba_len (args_ba_len _) (ba_len_meets p.1 _ 0) ⟨g1, q⟩) (by omega) (by rw [bytes_size]; omega)
        (C _ _ _ _ _ h rfl (Step.toks _) (H.toks _) ⟨_, by rw [bytes_size]; rfl⟩)
theorem args_ok {as : List AV} {f1 : AV → Bool} {f2 : AV → AV → Bool} {f3 : AV → AV → AV → Bool} (h : Mine.args as f1 f2 f3 = true) : (∃ a, as = [a] ∧ f1 a = true) ∨ (∃ a b, as = [a, b] ∧ f2 a b = true) ∨ ∃ a b c, as = [a, b, c] ∧ f3 a b c = true := by
  match as, h with
  | [], h => exact (nomatch (show false = true from h))
  | [a], h => exact .inl ⟨a, rfl, h⟩
  | [a, b], h => exact .inr (.inl ⟨a, b, rfl, h⟩)
  | [a, b, c], h => exact .inr (.inr ⟨a, b, c, rfl, h⟩)
  | _ :: _ :: _ :: _ :: _, h => exact (nomatch (show false = true from h))
theorem kPick_ok {a b : AV} {k : K} {c : Bool} {σ : St} (h : kPick a b k c σ = true) : k (if c = true then b else a) σ = true := by cases c <;> exact h
theorem irel_pick {W : Wd} {f : Int → Int → Bool} {a b : AV} {va vb : Value} {σ : St} {s : Shared} {k : K} (H : HRel X W σ s) (Va : VR X W a va) (Vb : VR X W b vb) (h : Mine.irel f b a σ (kPick a b k) = true) :
    ∃ x y t u c σ', va = .int x t ∧ vb = .int y u ∧ k c σ' = true ∧ SameSt σ σ' ∧ HRel X W σ' s ∧ VR X W c (if f y x = true then .int y u else .int x t) := by
  obtain ⟨y, x, u, t, σ', rfl, rfl, h1, e, H'⟩ := irel_ok H h Vb Va
  refine ⟨x, y, t, u, _, σ', rfl, rfl, kPick_ok h1, e, H', ?_⟩
  split <;> assumption
theorem b_min_ok : BSim X n b_min (.builtin "min") := by
  intro A hA as σ k h E s W Q vs H Vs C
  rcases args_ok h with ⟨a, rfl, h⟩ | ⟨a, b, rfl, h⟩ | ⟨a, b, c, rfl, h⟩
  · cases h
  · cases Vs with
    | @cons _ va _ _ Va Vs =>
    cases Vs with
    | @cons _ vb _ _ Vb Vs =>
    cases Vs
    obtain ⟨x, y, t, u, c, σ', rfl, rfl, h1, e, H', Vc⟩ := irel_pick H Va Vb h
    refine min_two_ints hA.hand fun h' tk kk => ?_
    obtain ⟨H'', S''⟩ := H'.grow kk tk
    refine C _ _ _ _ _ h1 e.lo S'' H'' ?_
    rw [ltb_eq] at Vc
    simpa using Vc
  · cases Vs with
    | @cons _ va _ _ Va Vs =>
    cases Vs with
    | @cons _ vb _ _ Vb Vs =>
    cases Vs with
    | @cons _ vc _ _ Vc Vs =>
    cases Vs
    obtain ⟨x, y, t, u, d, σ', rfl, rfl, h1, e, H', Vd⟩ := irel_pick H Va Vb h
    obtain ⟨x', z, t', v, d', σ'', ed, rfl, h2, e', H'', Vd'⟩ := irel_pick H' Vd Vc h1
    refine min_three_ints hA.hand fun h' tk kk => ?_
    obtain ⟨H₃, S₃⟩ := H''.grow kk tk
    refine C _ _ _ _ _ h2 (e'.lo.trans e.lo) S₃ H₃ ?_
    rw [ltb_eq] at Vd' ed
    by_cases hyx : y < x
    · rw [if_pos (by simpa using hyx)] at ed
      injection ed with e1 e2
      subst e1 e2
      rw [if_pos hyx]; simpa using Vd'
    · rw [if_neg (by simpa using hyx)] at ed
      injection ed with e1 e2
      subst e1 e2
      rw [if_neg hyx]; simpa using Vd'
theorem b_max_ok : BSim X n b_max (.builtin "max") := by
  intro A hA as σ k h E s W Q vs H Vs C
  rcases args_ok h with ⟨a, rfl, h⟩ | ⟨a, b, rfl, h⟩ | ⟨a, b, c, rfl, h⟩
  · cases h
  · cases Vs with
    | @cons _ va _ _ Va Vs =>
    cases Vs with
    | @cons _ vb _ _ Vb Vs =>
    cases Vs
    obtain ⟨x, y, t, u, c, σ', rfl, rfl, h1, e, H', Vc⟩ := irel_pick H Va Vb h
    refine max_two_ints hA.hand fun h' tk kk => ?_
    obtain ⟨H'', S''⟩ := H'.grow kk tk
    refine C _ _ _ _ _ h1 e.lo S'' H'' ?_
    rw [gtb_eq] at Vc
    simpa using Vc
  · cases h
theorem b_int_ok : BSim X n b_int (.type "int") := by
  intro A hA as σ k h E s W Q vs H Vs C
  obtain ⟨a, rfl, h⟩ := arg1_ok h
  cases Vs with
  | @cons _ v _ _ V Vs =>
  cases Vs
  cases a <;> try exact (nomatch (show false = true from h))
  · rw [show v = .bool true from V]
    exact call_int_bool (C _ _ _ _ _ h rfl (Step.toks _) (H.toks _) ⟨_, rfl⟩)
  · rw [show v = .bool false from V]
    exact call_int_bool (C _ _ _ _ _ h rfl (Step.toks _) (H.toks _) ⟨_, rfl⟩)
theorem b_range_ok : BSim X n b_range (.type "range") := by
  intro A hA as σ k h E s W Q vs H Vs C
  rcases args_ok h with ⟨a, rfl, h⟩ | ⟨a, b, rfl, h⟩ | ⟨a, b, c, rfl, h⟩
  · cases Vs with
    | @cons _ va _ _ Va Vs =>
    cases Vs
    obtain ⟨x, t, σ', rfl, h, e, H'⟩ := con_ok H Va h
    exact call_range_1 (push_rel H' h rfl ⟨_, _, _, Heap.get?_push_size _ rfl⟩ (C.step e.lo (.refl ..)) _)
  · cases Vs with
    | @cons _ va _ _ Va Vs =>
    cases Vs with
    | @cons _ vb _ _ Vb Vs =>
    cases Vs
    have h : con a σ (fun x σ => con b σ fun y σ => new σ (.range x y) k) = true := h
    obtain ⟨x, t, σ', rfl, h, e, H'⟩ := con_ok H Va h
    obtain ⟨y, u, σ'', rfl, h, e', H''⟩ := con_ok H' Vb h
    exact call_range_2 (push_rel H'' h rfl ⟨_, _, _, Heap.get?_push_size _ rfl⟩ (C.step (e'.lo.trans e.lo) (.refl ..)) _)
  · cases h
end
section
variable {X : Cx} {n : Nat}
theorem made_rel {W : Wd} {σ : St} {s : Shared} {o : AO} {k : K} {ob : Obj} {D : Addr} {h' : Heap} {Q : Value → Shared → Prop} (H : HRel X W σ s) (h : new σ o k = true) (k0 : ∀ b o, s.heap.get? b = some o → h'.get? b = some o) (g : h'.get? D = some ob) (zD : s.heap.get? D = none)
    (ro : RO X (W.add (D, D)) h' (D, D) o) (C : Cont X σ s W k Q) (t : Nat) : Q (.ref D) { s with heap := h', toks := t } := by
  obtain ⟨hp, e, h3⟩ := new_ok h
  obtain ⟨H₁, S₁⟩ := H.grow k0 t
  have H₂ := H₁.adopt (D := D) (o := o) (hp := hp) g (nx_fresh H zD).1 (nx_fresh H zD).2 ro e
  have x₂ : StepE s W { s with heap := h', toks := t } (W.add (D, D)) := ⟨Wd.add_le .., S₁.keep, fun b hb => by
    rcases own_add.mp hb with z | z | z
    · exact .inl z
    · exact .inr (by rw [show b = D from z]; exact zD)
    · exact .inr (by rw [show b = D from z]; exact zD), S₁.stay, S₁.os⟩
  refine C _ _ _ _ _ h3 rfl x₂ H₂ ⟨(D, D), ?_, rfl⟩
  show (W.ρ ++ [_])[σ.nx]? = _
  rw [H.nx, List.getElem?_append_right (Nat.le_refl _), Nat.sub_self]; rfl
theorem keysOf_ok : ∀ {es : List (Int × AV)} {k : List AV → Bool}, keysOf es k = true → k (es.map fun p => .int p.1) = true
  | [], _, h => h
  | p :: es, k, h => keysOf_ok (es := es) (k := fun r => k (.int p.1 :: r)) h
theorem All2.of {α β : Type} {R : α → β → Prop} : ∀ {l : List α} {l' : List β}, l'.length = l.length → (∀ (i : Nat) (a : α) (b : β), l[i]? = some a → l'[i]? = some b → R a b) → All2 R l l'
  | [], [], _, _ => .nil
  | [], _ :: _, e, _ => by simp at e
  | _ :: _, [], e, _ => by simp at e
  | a :: l, b :: l', e, h => .cons (h 0 a b rfl rfl) (All2.of (by simpa using e) fun i x y hx hy => h (i + 1) x y (by simpa using hx) (by simpa using hy))
theorem b_list_ok : BSim X n b_list (.type "list") := by
  intro A hA as σ k h E s W Q vs H Vs C
  obtain ⟨a, rfl, h⟩ := arg1_ok h
  cases Vs with
  | @cons _ v _ _ V Vs =>
  cases Vs
  obtain ⟨i, rfl, h⟩ := onOwn_ok h
  obtain ⟨p, o, hp, rfl, ho, ro, h⟩ := own_obj H V h
  have z := sizeLine_ge
  cases o <;> try exact (nomatch (show false = true from h))
  · rename_i xs
    have h : new σ (.list xs) k = true := h
    obtain ⟨l1, ws, n1, g1, V1⟩ := ro
    refine call_list_seq p.1 (.inl rfl) g1 rfl rfl (fun h' c' kk g => ?_) (by rw [List.size_toArray, V1.length]; omega)
    exact made_rel H h kk g (fresh_none _) ⟨l1, ws, c', g, V1.le (Wd.add_le ..)⟩ C s.toks
  · rename_i es
    obtain ⟨l1, kvs, D, R⟩ := ro
    obtain ⟨ep, hat⟩ := D.dictAt
    have h := keysOf_ok (show keysOf es (fun l => new σ (.list l) k) = true from h)
    have e1 := R.length
    refine kdl_call (kdl_dict (knd := intKind X.prog X.w) (kvs := kvs) (ep := ep) (own_ne_sys H hp)) hA.hand hat (by omega) fun h' tk acc' c' kk g hi => ?_
    have ea : acc' = acc'.toList.toArray := by simp
    refine made_rel H h kk g (fresh_none _) ⟨by simp; omega, acc'.toList, c', by rw [g], All2.of ?_ fun i a b ha hb => ?_⟩ C tk
    · rw [Array.length_toList, hi.1, List.length_map, e1]
    · obtain ⟨kk, x, hx, hk⟩ := hi.2 i b (by rw [← Array.getElem?_toList]; exact hb)
      have ek := congrArg (fun l => l[i]?) R.keys
      simp only [List.getElem?_map] at ek ha
      rw [hx] at ek
      cases he : es[i]? with
      | none => rw [he] at ha; simp at ha
      | some q =>
        rw [he] at ha ek
        simp at ha ek
        subst ha
        obtain ⟨t, rfl⟩ := Value.isInt_shape hk
        exact ⟨t, by rw [ek]⟩
theorem list_sort_short {A : Around} {s : Shared} {a : Addr} {vs : List Value} {z : Nat} {P : Fin → Shared → Prop} (ho : s.heap.get? a = some (seqObj "list" vs.toArray z)) (h2 : vs.length < 2)
    (h : P (.done (.ret .none)) { s with heap := sortedHeap s.heap a vs vs.toArray }) : wpAny (model X.prog X.w) A (Builtin.«list.sort» ⟨[.ref a], []⟩) P E s := by
  rw [list_sort_plain]
  have ha : a < s.heap.objs.size := Heap.lt_size ho
  have hz := sizeLine_ge
  have hsz : vs.toArray.size = vs.length := by simp
  refine wpAny_bind (listItems_at ho rfl ?_)
  refine wpAny_bind (listUpdate_at ho rfl ?_ (by omega) (by simp))
  obtain ⟨e1, ho1⟩ : ∃ e1, (s.heap.update a (Obj.mapSeq fun _ => #[])).get? a = some (seqObj "list" #[] e1) := ⟨_, get?_update_seq ho (fun _ => #[])⟩
  refine wpAny_bind (seqEpoch_at ho1 rfl ?_)
  refine wpAny_bind (wpAny_newTuple ?_ (by simp; omega))
  refine wpAny_bind (wpAny_newList ?_)
  refine wpAny_holding ?_
  have ho6 : (((s.heap.update a (Obj.mapSeq fun _ => #[])).push (seqObj "tuple" vs.toArray 0)).push (seqObj "list" #[] 0)).get? a = some (seqObj "list" #[] e1) := by
    rw [Heap.get?_push_ne _ _ _ (by rw [size_push', Heap.size_update]; exact Nat.ne_of_lt (Nat.lt_succ_of_lt ha)), Heap.get?_push_ne _ _ _ (by rw [Heap.size_update]; exact Nat.ne_of_lt ha)]
    exact ho1
  show wpAny _ A _ P E { s with heap := ((s.heap.update a (Obj.mapSeq fun _ => #[])).push (seqObj "tuple" vs.toArray 0)).push (seqObj "list" #[] 0) }
  dsimp only
  rw [if_pos (by omega), if_pos (by omega)]
  refine wpAny_bind (wpAny_pure ?_)
  rw [StateT.run_pure]
  refine wpAny_bind (wpAny_pure ?_)
  dsimp only
  have ev : (vs.toArray.zip vs.toArray).map (·.2) = vs.toArray := by
    match vs, h2 with
    | [], _ => simp
    | [x], _ => simp
    | _ :: _ :: _, h2 => simp at h2; omega
  refine wpAny_bind (seqEpoch_at ho6 rfl ?_)
  refine wpAny_bind (listUpdate_at ho6 rfl ?_ (by simp) (by rw [Array.size_map]; show (vs.toArray.zip vs.toArray).size ≤ _; rw [Array.size_zip]; omega))
  simp only [bne_self_eq_false, Bool.false_eq_true, if_false]
  refine wpAny_pure ?_
  have e2 : (arrOf (SortSt.mk' general' (vs.toArray.zip vs.toArray) #[] 7 none)).map (·.2) = vs.toArray := ev
  rw [e2]
  exact h
theorem b_sorted_ok : BSim X n b_sorted (.builtin "sorted") := by
  intro A hA as σ k h E s W Q vs H Vs C
  obtain ⟨a, rfl, h⟩ := arg1_ok h
  cases Vs with
  | @cons _ v _ _ V Vs =>
  cases Vs
  obtain ⟨i, rfl, h⟩ := onOwn_ok h
  obtain ⟨p, o, hp, rfl, ho, ro, h⟩ := own_obj H V h
  obtain ⟨xs, rfl, h⟩ := onList_ok h
  have h : xs.length < 2 ∧ new σ (.list xs) k = true := by
    match xs, h with
    | [], h => exact ⟨by simp, h⟩
    | [x], h => exact ⟨by simp, h⟩
    | _ :: _ :: _, h => exact (nomatch (show false = true from h))
  obtain ⟨h2, h⟩ := h
  obtain ⟨l1, ws, n1, g1, V1⟩ := ro
  have ew := V1.length
  have hz := sizeLine_ge
  refine Calls.call_function_entry kind_sorted plain_sorted entry_sorted (args_sorted1 _) ?_
  unfold Builtin.«sorted»
  refine wpAny_bind (m := checkCount "sorted" 1 1 _) (wpAny_pure ?_)
  refine wpAny_bind (collect_list ⟨_, g1, rfl, _, rfl⟩ ?_ (by omega))
  refine wpAny_bind (wpAny_newList ?_ (by omega))
  have hsz : ((s.heap.push (seqObj "list" #[] 0)).update s.heap.objs.size (Obj.mapSeq (· ++ ws.toArray))).objs.size = s.heap.objs.size + 1 := by
    rw [Heap.size_update, size_push']
  have hoL : (((s.heap.push (seqObj "list" #[] 0)).update s.heap.objs.size (Obj.mapSeq (· ++ ws.toArray))).push (seqObj "list" ws.toArray 0)).get? (s.heap.objs.size + 1) = some (seqObj "list" ws.toArray 0) := by
    rw [← hsz]; exact Heap.get?_push_size _ rfl
  show wpAny _ _ _ _ _ { s with heap := ((s.heap.push (seqObj "list" #[] 0)).update s.heap.objs.size (Obj.mapSeq (· ++ ws.toArray))).push (seqObj "list" ws.toArray 0) }
  rw [hsz]
  have k1 : ∀ b o, s.heap.get? b = some o → ((s.heap.push (seqObj "list" #[] 0)).update s.heap.objs.size (Obj.mapSeq (· ++ ws.toArray))).get? b = some o := fun b o e => by
    rw [Heap.get?_update_other _ _ (Ne.symm (Nat.ne_of_lt (Heap.lt_size e)))]
    exact Heap.get?_push_of_some _ e
  generalize hH1 : (s.heap.push (seqObj "list" #[] 0)).update s.heap.objs.size (Obj.mapSeq (· ++ ws.toArray)) = H1 at hsz hoL k1 ⊢
  refine wpAny_bind (wpAny_holding (wpAny_call_entry slot_list_sort ⟨_, hoL, rfl⟩ entry_list_sort (list_sort_short hoL (by omega) ⟨_, rfl, ?_⟩) (args_list_sort _)))
  refine wpAny_pure ⟨_, rfl, ?_⟩
  have ne : ∀ b o, s.heap.get? b = some o → s.heap.objs.size + 1 ≠ b := fun b o e q => by
    have := Heap.lt_size e
    rw [← q] at this
    exact Nat.lt_irrefl _ (Nat.lt_of_succ_lt this)
  have k2 : ∀ b o, s.heap.get? b = some o → (sortedHeap (H1.push (seqObj "list" ws.toArray 0)) (s.heap.objs.size + 1) ws ws.toArray).get? b = some o := fun b o e => by
    unfold sortedHeap
    rw [Heap.get?_update_other _ _ (ne b o e)]
    refine Heap.get?_push_of_some _ (Heap.get?_push_of_some _ ?_)
    rw [Heap.get?_update_other _ _ (ne b o e)]
    exact Heap.get?_push_of_some _ (k1 b o e)
  have g2 : ∃ z, (sortedHeap (H1.push (seqObj "list" ws.toArray 0)) (s.heap.objs.size + 1) ws ws.toArray).get? (s.heap.objs.size + 1) = some (lstObj ws z) := by
    unfold sortedHeap
    have e1 := get?_update_seq (xs := ws.toArray) (n := 0) hoL fun _ => #[]
    obtain ⟨z, e2⟩ : ∃ z, ((((H1.push (seqObj "list" ws.toArray 0)).update (s.heap.objs.size + 1) (Obj.mapSeq fun _ => #[])).push (seqObj "tuple" ws.toArray 0)).push (seqObj "list" #[] 0)).get? (s.heap.objs.size + 1) = some (seqObj "list" #[] z) :=
      ⟨_, Heap.get?_push_of_some _ (Heap.get?_push_of_some _ e1)⟩
    exact ⟨_, get?_update_seq e2 fun _ => ws.toArray⟩
  obtain ⟨z, g2⟩ := g2
  exact made_rel H h k2 g2 (none_beyond _ (Nat.le_succ _)) ⟨by omega, ws, z, g2, V1.le (Wd.add_le ..)⟩ C s.toks
end
theorem rg_no_bytes : typeLookup (.type "range") "__bytes__" = pure none := by rw [typeLookup_type, builtinLookup_eq_fast]; kernel_rfl
theorem rg_no_index : typeLookup (.type "range") "__index__" = pure none := by rw [typeLookup_type, builtinLookup_eq_fast]; kernel_rfl
theorem rg_no_buffer : typeLookup (.type "range") "__buffer__" = pure none := by rw [typeLookup_type, builtinLookup_eq_fast]; kernel_rfl
theorem rg_split : splitId "range.__len__" = some ("range", "__len__") := by decide +kernel
theorem rg_sub : isSubtype (.type "range") (.type "range") = pure true := by rw [isSubtype_type]; kernel_rfl
noncomputable abbrev upTo (a j : Nat) : Array UInt8 := ((List.range' a j).map UInt8.ofNat).toArray
theorem upTo_size (a j : Nat) : (upTo a j).size = j := by simp
theorem upTo_succ (a j : Nat) : upTo a (j + 1) = (upTo a j).push (UInt8.ofNat (a + j)) := by
  unfold upTo
  rw [List.range'_concat]
  simp
section
variable {prog : Program} {w : World} {A : Around} {E : Value → Shared → Prop}
theorem rg_loop {R : Result → Shared → Prop} {I S : Addr} {a m : Nat} (hh : A.handled = none) (hr : a + m ≤ 256) (hIS : I ≠ S) :
    ∀ (k j : Nat) (s : Shared), m - j = k → j ≤ m → IsRangeIter s.heap I (a + j : Int) ((m : Int) - (j : Int)) 1 → s.heap.get? S = some { cls := .type "bytearray", data := .bytearray (upTo a j) } →
      (∀ h' t k', (∀ b o, b ≠ I → b ≠ S → s.heap.get? b = some o → h'.get? b = some o) → R (.ok (.ret (.bytes (upTo a m) t))) { s with heap := h', toks := k' }) →
      codeAny (model prog w) A (.builtin "bytes.__new__.loop" ⟨[.type "bytes", .ref I, .ref S], []⟩) R s := by
  intro k
  have hz : m ≤ sizeLine := by have := sizeLine_ge; omega
  induction k with
  | zero =>
    intro j s hk hle hit hS hR
    have hjm : j = m := by omega
    subst hjm
    refine codeAny_builtin F.bm_entry_loop ?_
    rw [Around.under_plainId F.bm_plain_loop _]
    show wpAny _ A.in1 (pyNext (.ref I) >>= _) _ _ s
    refine wpAny_bind (wpAny_pyNext_range_end hh hit (by omega) fun h' he => ?_)
    have hS' : h'.get? S = some { cls := .type "bytearray", data := .bytearray (upTo a j) } := he S _ (Ne.symm hIS) hS
    refine wpAny_bind ?_
    unfold Builtin.Bytes.payload Builtin.Bytes.payload?
    refine wpAny_bind (wpAny_bind (wpAny_load hS' ?_))
    refine wpAny_pure (wpAny_pure ?_)
    refine wpAny_bind (wpAny_mkBytes ?_ (by rw [upTo_size]; exact hz))
    show wpAny _ _ (if (Value.type "bytes" == Value.type "bytes") = true then _ else _) _ _ _
    refine bm_if_true (by decide) ?_
    first
      | exact wpAny_pure (hR h' _ _ fun b o hb _ e => he b o hb e)
      | exact wpAny_bind (wpAny_pure (wpAny_pure (hR h' _ _ fun b o hb _ e => he b o hb e)))
  | succ k ih =>
    intro j s hk hle hit hS hR
    have hlt : j < m := by omega
    refine codeAny_builtin F.bm_entry_loop ?_
    rw [Around.under_plainId F.bm_plain_loop _]
    show wpAny _ A.in1 (pyNext (.ref I) >>= _) _ _ s
    refine wpAny_bind (wpAny_pyNext_range_item hit (by omega) fun h' hit' hs => ?_)
    have hS' : h'.get? S = some { cls := .type "bytearray", data := .bytearray (upTo a j) } := (hs.2 S (Ne.symm hIS)).trans hS
    refine wpAny_bind (wpAny_holding (wpAny_of_eq (rfl : asIndex (.int (a + j : Int) s.toks) = pure (a + j : Int)) ?_))
    refine wpAny_bind (wpAny_letGo ?_)
    refine bm_if_false (by simp only [Bool.or_eq_false_iff, decide_eq_false_iff_not]; omega) ?_
    have e8 : ((a : Int) + (j : Int)).toNat.toUInt8 = UInt8.ofNat (a + j) := by
      have : ((a : Int) + (j : Int)).toNat = a + j := by omega
      rw [this]
    rw [e8]
    refine wpAny_bind ?_
    show wpAny _ _ (updateBytearray S (·.push (UInt8.ofNat (a + j)))) _ _ _
    unfold updateBytearray
    refine wpAny_bind (wpAny_load hS' ?_)
    show wpAny _ _ (update S (Obj.mapBytearray (·.push (UInt8.ofNat (a + j)))) >>= fun _ => lookBehind S) _ _ _
    refine wpAny_bind (wpAny_update hS' ?_)
    have hS₂ : (h'.update S (Obj.mapBytearray (·.push (UInt8.ofNat (a + j))))).get? S = some { cls := .type "bytearray", data := .bytearray (upTo a (j + 1)) } := by
      rw [upTo_succ]
      exact Heap.get?_update_self (Obj.mapBytearray (·.push (UInt8.ofNat (a + j)))) hS' rfl
    refine wpAny_lookBehind hS₂ ?_ ?_
    · show (if (upTo a (j + 1)).size > sizeLine then some "bytearray:memory" else none) = none
      rw [if_neg]
      rw [upTo_size]
      omega
    · have e1 : ((a : Int) + (j : Int)) + 1 = (a : Int) + ((j + 1 : Nat) : Int) := by omega
      have e2 : ((m : Int) - (j : Int)) - 1 = (m : Int) - ((j + 1 : Nat) : Int) := by omega
      rw [e1, e2] at hit'
      refine wpAny_pure ⟨plainId_quiet F.bm_plain_loop _, ih (j + 1) { s with heap := h'.update S (Obj.mapBytearray (·.push (UInt8.ofNat (a + j)))), toks := s.toks + 1 } (by omega) hlt ?_ hS₂ fun h3 t' k' hk3 => ?_⟩
      · exact (Heap.get?_update_other _ _ (Ne.symm hIS)).trans hit'
      · exact hR h3 t' k' fun b o hbI hbS e => hk3 b o hbI hbS ((Heap.get?_update_other _ _ (Ne.symm hbS)).trans (hs.extBut b o hbI e))
theorem rg_new {r : Addr} {a b m : Nat} {ta tb tc : Tok} {s : Shared} {Q : Value → Shared → Prop} (hh : A.handled = none) (hr : IsRange s.heap r a b 1 ta tb tc) (hm : m = b - a) (ha : a ≤ 256) (hb : b ≤ 256)
    (hQ : ∀ h' t k, (∀ b o, s.heap.get? b = some o → h'.get? b = some o) → Q (.bytes (upTo a m) t) { s with heap := h', toks := k }) :
    codeAny (model prog w) A (.call (.builtin "bytes.__new__") ⟨[.type "bytes", .ref r], []⟩) (wants Q E) s := by
  refine codeAny_of_tree ?_
  show wpAny _ A.in1 (do checkBuiltinCall "bytes.__new__" ⟨[.type "bytes", .ref r], []⟩; again (.builtin "bytes.__new__" ⟨[.type "bytes", .ref r], []⟩)) _ _ s
  refine wpAny_bind (wpAny_of_eq (F.bm_newCall _) (wpAny_pure ⟨plainId_quiet F.bm_plain _, codeAny_builtin F.bm_entry ?_⟩))
  rw [Around.under_plainId F.bm_plain _]
  have hz := sizeLine_ge
  have hT : s.TypeIs (.ref r) "range" := ⟨_, hr, rfl⟩
  have hrs : Builtin.Range.rangeSize (a : Int) (b : Int) 1 = (m : Int) := by rw [Mine.rangeSize_one]; split <;> omega
  unfold Builtin.«bytes.__new__»
  refine wpAny_bind (wpAny_of_eq (a := true) rfl ?_)
  refine bm_if_false rfl ?_
  refine wpAny_bind (wpAny_of_eq F.bm_sub ?_)
  refine bm_if_false rfl ?_
  refine wpAny_bind (wpAny_of_eq (F.bm_bind _) ?_)
  refine wpAny_bind (wpAny_of_eq (a := ()) rfl ?_)
  refine wpAny_bind (wpAny_of_eq (a := ()) rfl ?_)
  refine bm_if_false rfl ?_
  refine wpAny_bind (wpAny_specialOf hT rg_no_bytes ?_)
  refine wpAny_bind (wpAny_bind ?_)
  show wpAny _ _ (load r >>= _) _ _ _
  refine wpAny_bind (wpAny_load hr ?_)
  refine wpAny_pure (wpAny_pure ?_)
  refine bm_if_false rfl ?_
  refine wpAny_bind (wpAny_specialOf hT rg_no_index ?_)
  refine bm_if_true rfl ?_
  first
    | show wpAny _ _ (Builtin.Bytes.buffer? "bytes.__new__" (.ref r) true >>= _) _ _ _
    | (refine wpAny_bind ?_; show wpAny _ _ (Builtin.Bytes.buffer? "bytes.__new__" (.ref r) true >>= _) _ _ _)
  refine wpAny_bind ?_
  unfold Builtin.Bytes.buffer?
  refine wpAny_bind (wpAny_specialOf hT rg_no_buffer ?_)
  refine wpAny_bind (wpAny_specialOf hT rg_no_buffer ?_)
  refine wpAny_pure ?_
  have hsm : Builtin.Range.small (a : Int) (b : Int) 1 = true := by
    unfold Builtin.Range.small
    rw [Mine.rangeSize_one]
    have : ∀ x : Int, x.natAbs ≤ 3000000000 → Builtin.Range.rangeFitsLong x = true := fun x hx => by unfold Builtin.Range.rangeFitsLong; simp; omega
    rw [this a (by omega), this b (by omega), this 1 (by decide)]
    rw [this (if (a : Int) < b then (b : Int) - a else 0) (by split <;> omega)]
    rw [if_pos (show (1 : Int) > 0 by decide), this ((b : Int) + (1 - 1)) (by omega)]
    simp
  refine wpAny_bind (wpAny_tryCatch (wpAny_pyIter_range hr hsm ?_))
  have hr₁ : IsRange (s.heap.push { cls := .type "range_iterator", data := .fields #[rawInt a, rawInt (Builtin.Range.rangeSize a b 1), rawInt 1] }) r a b 1 ta tb tc := Heap.get?_push_of_some _ hr
  have hT₁ : ({ s with heap := s.heap.push { cls := .type "range_iterator", data := .fields #[rawInt a, rawInt (Builtin.Range.rangeSize a b 1), rawInt 1] } } : Shared).TypeIs (.ref r) "range" := ⟨_, hr₁, rfl⟩
  refine wpAny_bind (wpAny_holding ?_)
  unfold Builtin.Bytes.lengthHint
  refine wpAny_bind (wpAny_specialOf hT₁ PySem.F.slot_range_len.lookup ?_)
  dsimp only
  rw [rg_split]
  dsimp only
  refine wpAny_bind (wpAny_isInstance hT₁ rg_sub ?_)
  refine bm_if_false rfl ?_
  refine bm_if_false (by decide +kernel) ?_
  refine bm_if_true rfl ?_
  refine wpAny_bind (wpAny_rule ?_)
  refine wpAny_bind (wpAny_attempt (call_len_range (n := m) hr₁ hrs (by omega) ?_))
  dsimp only
  refine wpAny_bind (m := asInt? _) (wpAny_pure ?_)
  dsimp only
  refine bm_if_false (by simp [Builtin.Bytes.tooLong]; omega) ?_
  refine wpAny_pure ?_
  refine wpAny_bind ?_
  unfold Builtin.Bytes.newBytearray
  refine wpAny_newObj_type ?_ (Nat.zero_le _)
  have hlt : r < s.heap.objs.size := Heap.lt_size hr
  have hsz : (s.heap.push { cls := .type "range_iterator", data := .fields #[rawInt a, rawInt (Builtin.Range.rangeSize a b 1), rawInt 1] }).objs.size = s.heap.objs.size + 1 := Heap.size_push _ _
  rw [hrs] at hsz ⊢
  have main := rg_loop (prog := prog) (w := w) (A := A) (R := wants Q E) (I := s.heap.objs.size) (S := (s.heap.push { cls := .type "range_iterator", data := .fields #[rawInt a, rawInt (m : Int), rawInt 1] }).objs.size) (a := a) (m := m) hh (by omega) (by rw [hsz]; exact Nat.ne_of_lt (Nat.lt_succ_self _))
    m 0 { s with heap := (s.heap.push { cls := .type "range_iterator", data := .fields #[rawInt a, rawInt (m : Int), rawInt 1] }).push { cls := .type "bytearray", data := .bytearray #[] }, toks := s.toks + 1 + 1 } rfl (Nat.zero_le _)
    (by have e1 : (a : Int) + ((0 : Nat) : Int) = a := by omega
        have e2 : (m : Int) - ((0 : Nat) : Int) = m := by omega
        rw [e1, e2]
        exact Heap.get?_push_of_some _ (Heap.get?_push_size _ rfl)) (Heap.get?_push_size _ rfl)
    fun h' t k hk => hQ h' t k fun b o e => hk b o (Nat.ne_of_lt (Heap.lt_size e)) (by rw [hsz]; exact Nat.ne_of_lt (Nat.lt_succ_of_lt (Heap.lt_size e))) (Heap.get?_push_of_some _ (Heap.get?_push_of_some _ e))
  first
    | exact wpAny_pure ⟨plainId_quiet F.bm_plain_loop _, main⟩
    | exact wpAny_pure (wpAny_pure ⟨plainId_quiet F.bm_plain_loop _, main⟩)
theorem bb_slot : typeLookup (.type "bytes") "__bytes__" = pure (some (.builtin "bytes.__bytes__")) := by rw [typeLookup_type, builtinLookup_eq_fast]; kernel_rfl
theorem bb_new {x : Array UInt8} {t : Tok} {s : Shared} {Q : Value → Shared → Prop} (hQ : Q (.bytes x t) s) : codeAny (model prog w) A (.call (.builtin "bytes.__new__") ⟨[.type "bytes", .bytes x t], []⟩) (wants Q E) s := by
  refine codeAny_of_tree ?_
  show wpAny _ A.in1 (do checkBuiltinCall "bytes.__new__" ⟨[.type "bytes", .bytes x t], []⟩; again (.builtin "bytes.__new__" ⟨[.type "bytes", .bytes x t], []⟩)) _ _ s
  refine wpAny_bind (wpAny_of_eq (F.bm_newCall _) (wpAny_pure ⟨plainId_quiet F.bm_plain _, codeAny_builtin F.bm_entry ?_⟩))
  rw [Around.under_plainId F.bm_plain _]
  unfold Builtin.«bytes.__new__»
  refine wpAny_bind (wpAny_of_eq (a := true) rfl ?_)
  refine bm_if_false rfl ?_
  refine wpAny_bind (wpAny_of_eq F.bm_sub ?_)
  refine bm_if_false rfl ?_
  refine wpAny_bind (wpAny_of_eq (F.bm_bind _) ?_)
  refine wpAny_bind (wpAny_of_eq (a := ()) rfl ?_)
  refine wpAny_bind (wpAny_of_eq (a := ()) rfl ?_)
  refine bm_if_false rfl ?_
  refine wpAny_bind (wpAny_specialOf (PySem.W.typeIs_bytes s x t) bb_slot ?_)
  refine wpAny_bind (wpAny_rule ?_)
  refine wpAny_bind (wpAny_typeOf (PySem.W.typeIs_bytes s x t) ?_)
  refine bm_if_true (by decide) ?_
  show wpAny _ _ (if (Value.type "bytes" == Value.type "bytes") = true then _ else _) _ _ _
  refine bm_if_true (by decide) ?_
  first
    | exact wpAny_pure hQ
    | exact wpAny_bind (wpAny_pure (wpAny_pure hQ))
theorem call_bytes_of {v : Value} {s : Shared} {Q : Value → Shared → Prop} (h : codeAny (model prog w) A.in1 (.call (.builtin "bytes.__new__") ⟨[.type "bytes", v], []⟩) (wants (fun obj s₁ => s₁.TypeIs obj "bytes" ∧ Q obj s₁) E) s) :
    wpAny (model prog w) A (call (.type "bytes") [v]) Q E s := by
  refine callType_codes (Q₁ := fun obj s₁ => s₁.TypeIs obj "bytes" ∧ Q obj s₁) F.bm_called (F.bm_typeCall _) F.entry_object_init h fun obj s₁ h₁ => ?_
  exact ⟨h₁.1, F.args_object_init_2 obj _, object_init_meets F.bm_called.init.lookup F.bm_called.made (by decide) prog w A.in1 _ s₁ ⟨h₁.1, rfl, h₁.2⟩⟩
end
section
variable {X : Cx} {n : Nat}
theorem octets_ok {W : Wd} {s : Shared} : ∀ {l : List AV} {vs : List Value} {σ : St} {k : List Nat → St → Bool}, HRel X W σ s → VRs X W l vs → octets l σ k = true →
    ∃ (ns : List Nat) (σ' : St), k ns σ' = true ∧ SameSt σ σ' ∧ HRel X W σ' s ∧ IntsAre vs (ns.map fun n : Nat => (n : Int)) ∧ ∀ n ∈ ns, n < 256
  | [], _, σ, k, H, .nil, h => ⟨[], σ, h, .refl σ, H, .nil, fun n hn => by simp at hn⟩
  | v :: l, _, σ, k, H, .cons V Vs, h => by
    have h : con v σ (fun x σ => natOf x fun n => br (Nat.ble (Nat.succ n) 256) (octets l σ fun r σ => k (n :: r) σ) false) = true := h
    obtain ⟨x, t, σ₁, rfl, h, e, H₁⟩ := con_ok H V h
    obtain ⟨m, rfl, h⟩ := natOf_ok h
    obtain ⟨hm, h⟩ := br_false h
    have hm := Nat.le_of_ble_eq_true hm
    obtain ⟨ns, σ₂, h, e₂, H₂, hi, hn⟩ := octets_ok H₁ Vs h
    refine ⟨m :: ns, σ₂, h, e.trans e₂, H₂, .cons _ _ hi, fun q hq => ?_⟩
    rcases List.mem_cons.mp hq with rfl | hq
    · exact hm
    · exact hn q hq
theorem b_bytes_ok : BSim X n b_bytes (.type "bytes") := by
  intro A hA as σ k h E s W Q vs H Vs C
  obtain ⟨a, rfl, h⟩ := arg1_ok h
  cases Vs with
  | @cons _ v _ _ V Vs =>
  cases Vs
  have hz := sizeLine_ge
  cases a <;> try exact (nomatch (show false = true from h))
  · rename_i l
    obtain ⟨q, t, rfl⟩ := V
    exact call_bytes_of (bb_new ⟨PySem.W.typeIs_bytes _ _ _, C _ _ _ _ _ h rfl (.refl ..) H ⟨q, t, rfl⟩⟩)
  · rename_i i
    obtain ⟨p, o, hp, rfl, ho, ro, h⟩ := own_obj H V h
    cases o <;> try exact (nomatch (show false = true from h))
    · rename_i xs
      obtain ⟨l1, ws, n1, g1, V1⟩ := ro
      have h : octets xs σ (kBytes k) = true := h
      obtain ⟨ns, σ', h, e, H', hi, hn⟩ := octets_ok H V1 h
      have el : ns.length = xs.length := by have := hi.length; rw [List.length_map] at this; rw [← V1.length]; omega
      refine call_bytes_ints ⟨_, g1, rfl, _, rfl⟩ hi (fun x hx => ?_) (by rw [V1.length]; omega) hA.hand fun h' t k' kk => ?_
      · obtain ⟨m, hm, rfl⟩ := List.mem_map.mp hx
        exact ⟨by omega, by have := hn m hm; omega⟩
      · obtain ⟨H'', S''⟩ := H'.grow kk k'
        refine C _ _ _ _ _ h e.lo S'' H'' ⟨⟨by omega, hn⟩, t, ?_⟩
        congr 1
        unfold byteArr
        rw [List.map_map]
        congr 1
    · rename_i a b
      have h : natOf a (fun a => natOf b fun b => br (Nat.ble a 256) (br (Nat.ble b 256) (rng (Nat.sub b a) a fun l => k (.bytes l) σ) false) false) = true := h
      obtain ⟨a, rfl, h2⟩ := natOf_ok h
      obtain ⟨b, rfl, h3⟩ := natOf_ok h2
      obtain ⟨ha, h4⟩ := br_false h3
      obtain ⟨hb, h5⟩ := br_false h4
      have ha := Nat.le_of_ble_eq_true ha
      have hb := Nat.le_of_ble_eq_true hb
      have h6 := rng_ok h5
      obtain ⟨ta, tb, tc, g1⟩ := ro
      refine call_bytes_of (rg_new (m := Nat.sub b a) hA.hand g1 rfl ha hb fun h' t k' kk => ?_)
      obtain ⟨H'', S''⟩ := H.grow kk k'
      refine ⟨PySem.W.typeIs_bytes _ _ _, C _ _ _ _ _ h6 rfl S'' H'' ⟨⟨?_, fun x hx => ?_⟩, t, rfl⟩⟩
      · rw [List.length_range']; show b - a ≤ _; omega
      · rw [List.mem_range'_1] at hx
        have : b.sub a = b - a := rfl
        omega
end
section
variable (X : Cx) (n : Nat) (sc : List (Str × NameKind))
noncomputable def SimP (m : M) (x : Option Expr) : Prop := ∀ (env : Env) (L : Addr), EnvOk X sc env L → ∀ (A : Around), Room n A → ∀ (σ : St) (k : K), m σ k = true → ∀ (E : Value → Shared → Prop) (s : Shared) (W : Wd) (Q : Value → Shared → Prop),
  HRel X W σ s → LRel X W L σ.lo s.heap → Cont X σ s W k Q → wpAny (model X.prog X.w) A (evalPart x env) Q E s
end
section
variable {X : Cx} {n : Nat} {sc : List (Str × NameKind)}
theorem SimP.none : SimP X n sc (cst .none) Option.none := by
  intro env L hE A hA σ k h E s W Q H hL C
  rw [evalPart_none]
  exact wpAny_pure (C _ _ _ _ _ h rfl (.refl ..) H rfl)
theorem SimP.some {m : M} {e : Expr} (hm : SimE X n sc m e) : SimP X n sc m (Option.some e) := by
  intro env L hE A hA σ k h E s W Q H hL C
  rw [evalPart_some]
  exact hm env L hE A hA σ k h E s W Q H hL C
theorem cut_eq {α : Type} (l : List α) (lo : Nat) (hi : Option Nat) : (l.drop (min lo l.length)).take (((hi.map fun m => min m l.length).getD l.length) - min lo l.length) = match hi with
    | Option.none => l.drop lo
    | Option.some m => (l.drop lo).take (m - lo) := by
  have e1 : l.drop (min lo l.length) = l.drop lo := by
    by_cases h : lo ≤ l.length
    · rw [Nat.min_eq_left h]
    · rw [Nat.min_eq_right (by omega), List.drop_eq_nil_of_le (Nat.le_refl _), List.drop_eq_nil_of_le (by omega)]
  rw [e1]
  have hl : (l.drop lo).length = l.length - lo := List.length_drop ..
  cases hi with
  | none =>
    show (l.drop lo).take (l.length - min lo l.length) = l.drop lo
    exact List.take_of_length_le (by rw [hl]; omega)
  | some m =>
    show (l.drop lo).take (min m l.length - min lo l.length) = (l.drop lo).take (m - lo)
    by_cases h : m ≤ l.length
    · rw [Nat.min_eq_left h]
      by_cases h2 : lo ≤ l.length
      · rw [Nat.min_eq_left h2]
      · rw [List.drop_eq_nil_of_le (by omega)]; simp
    · rw [List.take_of_length_le (by rw [hl]; omega), List.take_of_length_le (by rw [hl]; omega)]
theorem loOf_ok {W : Wd} {σ : St} {s : Shared} {a : AV} {v : Value} {k : Nat → St → Bool} (H : HRel X W σ s) (V : VR X W a v) (h : loOf a σ k = true) : ∃ (lo : Option Int) (m : Nat) (σ' : St), IsPart v lo ∧ (lo = Option.none ∧ m = 0 ∨ lo = Option.some (m : Int)) ∧ k m σ' = true ∧ SameSt σ σ' ∧ HRel X W σ' s := by
  cases a <;> try exact (nomatch (show false = true from h))
  · rw [show v = .none from V]
    exact ⟨_, 0, σ, .none, .inl ⟨rfl, rfl⟩, h, .refl σ, H⟩
  · obtain ⟨t, rfl⟩ := V
    obtain ⟨m, rfl, h⟩ := natOf_ok h
    exact ⟨_, m, σ, .int _ _, .inr rfl, h, .refl σ, H⟩
  · rename_i t l
    have h : con (.vec t l) σ (fun x σ => natOf x fun n => k n σ) = true := h
    obtain ⟨x, t, σ', rfl, h, e, H'⟩ := con_ok H V h
    obtain ⟨m, rfl, h⟩ := natOf_ok h
    exact ⟨_, m, σ', .int _ _, .inr rfl, h, e, H'⟩
theorem hiOf_ok {W : Wd} {σ : St} {s : Shared} {l : List Nat} {b : AV} {lo : Nat} {v : Value} {k : K} (H : HRel X W σ s) (V : VR X W b v) (h : hiOf l b lo σ k = true) : ∃ (hi : Option Int) (m : Option Nat) (σ' : St), IsPart v hi ∧ hi = m.map (fun m => (m : Int)) ∧
    k (.bytes (match m with | Option.none => l.drop lo | Option.some m => (l.drop lo).take (m - lo))) σ' = true ∧ SameSt σ σ' ∧ HRel X W σ' s := by
  cases b <;> try exact (nomatch (show false = true from h))
  · rw [show v = .none from V]
    have h : dropC l lo (fun z => k (.bytes z) σ) = true := h
    exact ⟨_, Option.none, σ, .none, rfl, dropC_ok h, .refl σ, H⟩
  · obtain ⟨t, rfl⟩ := V
    obtain ⟨m, rfl, h⟩ := natOf_ok h
    exact ⟨_, Option.some m, σ, .int _ _, rfl, takeC_ok (dropC_ok h), .refl σ, H⟩
  · rename_i t l'
    have h : con (.vec t l') σ (fun x σ => natOf x fun m => dropC l lo fun r => takeC r (Nat.sub m lo) fun z => k (.bytes z) σ) = true := h
    obtain ⟨x, t, σ', rfl, h, e, H'⟩ := con_ok H V h
    obtain ⟨m, rfl, h⟩ := natOf_ok h
    exact ⟨_, Option.some m, σ', .int _ _, rfl, takeC_ok (dropC_ok h), e, H'⟩
theorem cut_at {M : Model} {A : Around} {E : Value → Shared → Prop} {s : Shared} {env : Env} {value : Expr} {lower upper : Option Expr} {p pos : Pos} {Q : Value → Shared → Prop}
    (h : wpAny M A (eval value env) (fun o s₁ => wpAny M A (eval (.Slice lower upper Option.none p) env) (fun i s₂ => s₂.TypeIs o "bytes" ∧ (∀ r, letTemporaryGo value o r = pure ()) ∧ wpAny M A (getItem o i) Q E s₂) E s₁) E s) :
    wpAny M A (eval (.Subscript value (.Slice lower upper Option.none p) pos) env) Q E s := by
  rw [eval_Subscript]
  refine wpAny_bind (wpAny_mono h (fun o s₁ h₁ => wpAny_bind (wpAny_holding (wpAny_mono h₁ (fun i s₂ h₂ => wpAny_bind (wpAny_standAt ?_)) fun _ _ x => x))) fun _ _ x => x)
  obtain ⟨hT, hg, h3⟩ := h₂
  have go : wpAny M A (operate [i, o] (getItem o i) >>= fun r => letTemporaryGo value o r >>= fun _ => pure r) Q E s₂ :=
    wpAny_bind (wpAny_operating (wpAny_mono h3 (fun r s₃ h₄ => wpAny_bind (wpAny_of_eq (hg r) (wpAny_pure h₄))) fun _ _ x => x))
  first
    | (refine wpAny_bind ?_
       rw [getitemInPython_of_ne hT.not_modules]
       refine wpAny_bind (wpAny_specialOf hT FB.slot_bytes_getitem.lookup (wpAny_pure ?_))
       exact go)
    | (refine wpAny_bind (wpAny_specialOf hT FB.slot_bytes_getitem.lookup ?_)
       exact go)
theorem SimE.slc {o lo hi : M} {value : Expr} {lower upper : Option Expr} {p pos : Pos} (hg : ∀ b t r, letTemporaryGo value (.bytes b t) r = pure ()) (ho : SimE X n sc o value) (hl : SimP X n sc lo lower) (hu : SimP X n sc hi upper) :
    SimE X n sc (slc o lo hi) (.Subscript value (.Slice lower upper Option.none p) pos) := by
  intro env L hE A hA σ k h E s W Q H hL C
  refine cut_at (ho env L hE A hA σ _ h E s W _ H hL fun v σ₁ W₁ s₁ va h₁ e₁ x₁ H₁ V₁ => ?_)
  refine wpAny_Slice (hl env L hE A hA σ₁ _ h₁ E s₁ W₁ _ H₁ (hL.lo' x₁ e₁) fun a σ₂ W₂ s₂ la h₂ e₂ x₂ H₂ V₂ => ?_)
  refine hu env L hE A hA σ₂ _ h₂ E s₂ W₂ _ H₂ (hL.lo' (x₁.trans x₂) (e₂.trans e₁)) fun b σ₃ W₃ s₃ lb h₃ e₃ x₃ H₃ V₃ => ?_
  rw [evalPart_none]
  refine wpAny_pure ?_
  obtain ⟨l, rfl, h4⟩ := onBytes_ok h₃
  obtain ⟨⟨l1, q1⟩, t, rfl⟩ := V₁
  obtain ⟨loI, m, σ₄, pl, el, h5, e₄, H₄⟩ := loOf_ok H₃ (V₂.le x₃.le) h4
  obtain ⟨hiI, m', σ₅, pu, eu, h6, e₅, H₅⟩ := hiOf_ok H₄ V₃ h5
  have hz := sizeLine_ge
  have ep : KBy.picked (l.map UInt8.ofNat).toArray loI hiI = ((match m' with | Option.none => l.drop m | Option.some m' => (l.drop m).take (m' - m)).map UInt8.ofNat).toArray := by
    rw [KBc.picked_eq]
    have e0 : (loI.elim 0 (clipAt (l.map UInt8.ofNat).toArray.size)) = min m (l.map UInt8.ofNat).length := by
      rcases el with ⟨rfl, rfl⟩ | rfl
      · simp
      · show clipAt _ (m : Int) = _
        rw [clipAt_nat]; simp
    have e1 : (hiI.elim (l.map UInt8.ofNat).toArray.size (clipAt (l.map UInt8.ofNat).toArray.size)) = (m'.map fun q => min q (l.map UInt8.ofNat).length).getD (l.map UInt8.ofNat).length := by
      subst eu
      cases m' with
      | none => simp
      | some q =>
        show clipAt _ (q : Int) = min q _
        rw [clipAt_nat]; simp
    rw [e0, e1]
    congr 1
    have := cut_eq (l.map UInt8.ofNat) m m'
    rw [show (l.map UInt8.ofNat).toArray.toList = l.map UInt8.ofNat from rfl, this]
    cases m' with
    | none => simp
    | some q => simp
  have lz : (match m' with | Option.none => l.drop m | Option.some m' => (l.drop m).take (m' - m)).length ≤ 10000 ∧ ∀ x ∈ (match m' with | Option.none => l.drop m | Option.some m' => (l.drop m).take (m' - m)), x < 256 := by
    cases m' with
    | none => exact ⟨by rw [List.length_drop]; omega, fun x hx => q1 x (List.mem_of_mem_drop hx)⟩
    | some q => exact ⟨by rw [List.length_take, List.length_drop]; omega, fun x hx => q1 x (List.mem_of_mem_drop (List.mem_of_mem_take hx))⟩
  refine ⟨PySem.W.typeIs_bytes _ _ _, fun r => hg _ _ r, getItem_meets (PySem.W.typeIs_bytes _ _ _) (by decide) FB.slot_bytes_getitem FB.entry_bytes_getitem (FB.args_bytes_getitem_2 _ _) (KBc.meets_slice2 _ t _ pl pu) ⟨Heap.IsSliceOf.new _ _ _ _, ?_, fun t' k' => ?_⟩⟩
  · rw [ep]; simp only [List.size_toArray, List.length_map]; omega
  · rw [ep]
    obtain ⟨H₆, S₆⟩ := H₅.grow (h' := s₃.heap.push { cls := .type "slice", data := .fields #[la, lb, .none] }) (fun b o g => Heap.get?_push_of_some _ g) k'
    exact C _ _ _ _ _ h6 ((((e₅.lo.trans e₄.lo).trans e₃).trans e₂).trans e₁) (((x₁.trans x₂).trans x₃).trans S₆) H₆ ⟨lz, t', rfl⟩
theorem SimE.dict0 {pos : Pos} : SimE X n sc Mine.dict0 (.Dict [] [] pos) := by
  intro env L hE A hA σ k h E s W Q H hL C
  refine wpAny_Dict_empty ?_
  exact push_rel H (show new σ (.dict []) k = true from h) rfl ⟨by simp, [], Heap.DictOf.new (knd := intKind X.prog X.w) s.heap, .nil⟩ C s.toks
end
noncomputable def badIds : List String := ["bytearray.__contains__", "bytearray.__mod__", "bytearray.__rmod__", "_struct.pack_into.held", "bytearray.find.held"] ++ Builtin.Bytes.decodersThatHold
noncomputable def badCode : Code → Bool
  | .builtin id _ => badIds.contains id
  | _ => false
structure NoDec (Γ : Ctx) : Prop where
  here : badCode Γ.code = false
  below : ∀ x ∈ Γ.below, badCode x.1 = false
theorem NoDec.enter {Γ : Ctx} (h : NoDec Γ) {c : Code} (hc : badCode c = false) (hd : Option Value) (p : Pos) : NoDec (Γ.enter c hd p) :=
  ⟨hc, fun x hx => by
    rcases List.mem_cons.mp (show x ∈ (Γ.code, p) :: Γ.below from hx) with rfl | hx
    · exact h.here
    · exact h.below x hx⟩
theorem NoDec.goto {Γ : Ctx} (h : NoDec Γ) {c : Code} (hc : badCode c = false) : NoDec (Γ.goto c) := ⟨hc, h.below⟩
noncomputable def wpX {α : Type} (M : Model) (A : Around) (t : Sem α) (Q : α → Shared → Prop) (E : Value → Shared → Prop) (s : Shared) : Prop :=
  ∀ Γ p, Γ.In A → NoDec Γ → Sem.wp M Γ t (fun a _ s' => Q a s') (fun e _ s' => E e s') p s
noncomputable def codeX (M : Model) (A : Around) (c : Code) (R : Result → Shared → Prop) (s : Shared) : Prop :=
  ∀ Γ p, Γ.code = c → Γ.Below A → NoDec Γ → wpCode M Γ R p s
section
variable {α β : Type} {M : Model} {A : Around} {E : Value → Shared → Prop} {s : Shared}
theorem wpX_any {t : Sem α} {Q : α → Shared → Prop} (h : wpAny M A t Q E s) : wpX M A t Q E s := fun Γ p hΓ _ => h Γ p hΓ
theorem codeX_any {c : Code} {R : Result → Shared → Prop} (h : codeAny M A c R s) : codeX M A c R s := fun Γ p hc hΓ _ => h Γ p hc hΓ
theorem wpX_pure {a : α} {Q : α → Shared → Prop} (h : Q a s) : wpX M A (pure a) Q E s := fun _ _ _ _ => h
theorem wpX_mono {t : Sem α} {Q Q' : α → Shared → Prop} {E' : Value → Shared → Prop} (h : wpX M A t Q E s) (hQ : ∀ a s, Q a s → Q' a s) (hE : ∀ e s, E e s → E' e s) : wpX M A t Q' E' s :=
  fun Γ p hΓ hN => Sem.wp_mono M Γ t (fun a _ s => hQ a s) (fun e _ s => hE e s) p s (h Γ p hΓ hN)
theorem wpX_bind {m : Sem α} {f : α → Sem β} {Q : β → Shared → Prop} (h : wpX M A m (fun a s' => wpX M A (f a) Q E s') E s) : wpX M A (m >>= f) Q E s := fun Γ p hΓ hN => by
  rw [Sem.wp_bind']
  exact Sem.wp_mono M Γ m (fun a p' s' h' => h' Γ p' hΓ hN) (fun _ _ _ h' => h') p s (h Γ p hΓ hN)
theorem wpX_bindA {m : Sem α} {f : α → Sem β} {Q : β → Shared → Prop} (h : wpAny M A m (fun a s' => wpX M A (f a) Q E s') E s) : wpX M A (m >>= f) Q E s := wpX_bind (wpX_any h)
theorem wpX_onRaise {m : Sem α} {k : Value → Sem Unit} {Q : α → Shared → Prop} (h : wpX M A m Q (fun e s' => wpX M A (k e) (fun _ s'' => E e s'') E s') s) : wpX M A (m.onRaise k) Q E s := fun Γ p hΓ hN => by
  rw [Sem.wp_onRaise]
  exact Sem.wp_mono M Γ m (fun _ _ _ h' => h') (fun e p' s' h' => h' Γ p' hΓ hN) p s (h Γ p hΓ hN)
theorem wpX_holding {vs : List Value} {m : Sem α} {Q : α → Shared → Prop} (h : wpX M A m Q E s) : wpX M A (holding vs m) Q E s := fun Γ p hΓ hN => by rw [Sem.wp_holding]; exact h Γ p hΓ hN
theorem wpX_keep {vs : List Value} {m : Sem α} {Q : α → Shared → Prop} (h : wpX M A m Q E s) : wpX M A (m.keep vs) Q E s := fun Γ p hΓ hN => by rw [Sem.wp_keep]; exact h Γ p hΓ hN
theorem wpX_standAt {pos : Pos} {Q : Unit → Shared → Prop} (h : Q () s) : wpX M A (standAt pos) Q E s := fun _ _ _ _ => h
theorem wpX_point {Q : Unit → Shared → Prop} (h : Q () s) : wpX M A point Q E s := wpX_any (wpAny_point h)
theorem wpX_run {c : Code} {h : Option Value} {Q : Flow → Shared → Prop} (hb : badCode c = false) (hc : codeX M (A.mark h) c (fun r s' => match r with | .ok f => Q f s' | .error e => E e s') s) (hnb : h ≠ some byPass := by intro x; cases x) : wpX M A (run c h) Q E s :=
  fun Γ p hΓ hN => by rw [Sem.wp_run]; exact hc _ p rfl (hΓ.enter c h p hnb) (hN.enter hb h p)
theorem wpX_runValue {c : Code} {Q : Value → Shared → Prop} (hb : badCode c = false) (hc : codeX M A c (fun r s' => match r with | .ok (.ret v) => Q v s' | .ok _ => False | .error e => E e s') s) : wpX M A (runValue c) Q E s :=
  fun Γ p hΓ hN => by rw [Sem.wp_runValue]; exact hc _ p rfl (hΓ.enter c none p (by intro x; cases x)) (hN.enter hb none p)
theorem wpX_call {f : Value} {pos : List Value} {kw : List (Str × Value)} {Q : Value → Shared → Prop} (hc : codeX M A (.call f ⟨pos, kw⟩) (fun r s' => match r with | .ok (.ret v) => Q v s' | .ok _ => False | .error e => E e s') s) : wpX M A (call f pos kw) Q E s :=
  wpX_runValue rfl hc
theorem codeX_of_tree {c : Code} {R : Result → Shared → Prop} (h : wpX M (A.under c) (M.den c) (fun fin s' => match fin with | .done f => R (.ok f) s' | .again c' => badCode c' = false ∧ c'.quiet = true ∧ codeX M A c' R s') (fun e s' => R (.error e) s') s) : codeX M A c R s := fun Γ p hc hΓ hN => by
  rw [wpCode_iff_wp, hc]
  refine Sem.wp_mono M Γ _ (fun fin p' s' h' => ?_) (fun _ _ _ h' => h') p s (h Γ p (hc ▸ hΓ.in) hN)
  cases fin with
  | done f => exact h'
  | again c' => exact ⟨h'.2.1, h'.2.2 (Γ.goto c') p' rfl (hΓ.goto c') (hN.goto h'.1)⟩
theorem codeX_mono {c : Code} {R R' : Result → Shared → Prop} (h : codeX M A c R s) (hR : ∀ r s, R r s → R' r s) : codeX M A c R' s := fun Γ p hc hΓ hN => wpCode_mono hR (h Γ p hc hΓ hN)
theorem wpX_exported {v : Value} {Q : Bool → Shared → Prop} (h : Q false s) : wpX M A (Builtin.Bytes.exported v) Q E s := fun Γ p hΓ hN => by
  have key : ∀ (f : Code × Pos → Bool), (∀ x, badCode x.1 = false → f x = false) → ((Γ.code, p) :: Γ.below).any f = false := fun f hf => by
    rw [List.any_eq_false]
    intro x hx
    rw [Bool.not_eq_true]
    refine hf x ?_
    rcases List.mem_cons.mp hx with e | hx
    · rw [e]; exact hN.here
    · exact hN.below _ hx
  unfold Builtin.Bytes.exported
  show Q (((Γ.code, p) :: Γ.below).any _) s
  rw [key _ ?_]
  · exact h
  · rintro ⟨c, q⟩ hc
    have hb : ∀ {id : String} {a : Args}, c = .builtin id a → badIds.contains id = false := fun e => by subst e; exact hc
    split <;> first | rfl | skip
    all_goals (rename_i e; injection e with e1 e2; have q := hb e1)
    all_goals first
      | (exfalso; revert q; decide +kernel)
      | (simp only [badIds, List.contains_append, Bool.or_eq_false_iff] at q; rw [q.2, Bool.and_false])
end
section
variable {M : Model} {A : Around} {E : Value → Shared → Prop} {s : Shared} {env : Env}
theorem x_execs_cons {st : Stmt} {rest : List Stmt} {Q : Flow → Shared → Prop} (h : wpX M A (exec st env) (fun f s' => match f with | .next => wpX M A (execs rest env) Q E s' | f => Q f s') E s) : wpX M A (execs (st :: rest) env) Q E s := by
  rw [execs_cons]
  refine wpX_bind (wpX_mono h (fun f s' h' => ?_) fun _ _ e => e)
  cases f <;> first | exact h' | exact wpX_pure h'
theorem x_If {test : Expr} {body orelse : List Stmt} {pos : Pos} {Q : Flow → Shared → Prop} (h : wpX M A (isTrue test env (eval test env)) (fun b s₂ => if b then wpX M A (execs body env) Q E s₂ else wpX M A (execs orelse env) Q E s₂) E s) : wpX M A (exec (.If test body orelse pos) env) Q E s := by
  rw [exec_If]
  refine wpX_bind (wpX_standAt (wpX_bind (wpX_mono h (fun b s₂ h₂ => ?_) fun _ _ e => e)))
  cases b <;> exact h₂
theorem x_Assign_Name {x : Str} {pos' pos : Pos} {value : Expr} {Q : Flow → Shared → Prop} (h : wpX M A (eval value env) (fun v s₁ => wpAny M A (storeName env x v) (fun _ => Q .next) E s₁) E s) (hs : swapsWith value (some (.Name x pos')) pos.line env = pure false) :
    wpX M A (exec (.Assign [.Name x pos'] value pos) env) Q E s := fun Γ p hΓ hN => by
  simp only [exec_Assign_Name env x pos' value pos hs, Sem.wp_bind', Sem.wp_cmd_standAt, Sem.wp_bindName, Sem.wp_pure']
  exact Sem.wp_mono M Γ _ (fun v _ s₁ h₁ => h₁ Γ _ hΓ) (fun _ _ _ h' => h') _ _ (h Γ _ hΓ hN)
theorem x_Assign_stores {targets : List Expr} {value : Expr} {pos : Pos} {Q : Flow → Shared → Prop} (h : wpX M A (eval value env) (fun v s₁ => wpAny M A (assignAll v ((assignEach targets env).map (·.2))) (fun _ => Q .next) E s₁) E s)
    (hs : swapsWithSole targets value pos.line env = pure false) (hw : swappedStores targets value env = pure none) : wpX M A (exec (.Assign targets value pos) env) Q E s := by
  rw [exec_Assign_arm]
  refine wpX_bind (wpX_standAt ?_)
  rw [hs]
  refine wpX_bind (wpX_pure ?_)
  rw [if_neg (by decide)]
  refine wpX_bind (wpX_mono h (fun v s₁ h₁ => ?_) fun _ _ x => x)
  rw [hw]
  refine wpX_bind (wpX_pure ?_)
  show wpX M A (do assignAll v ((assignEach targets env).map (·.2)); pure .next) Q E s₁
  exact wpX_bindA (wpAny_mono h₁ (fun _ _ x => wpX_pure x) fun _ _ x => x)
theorem x_isTrue_plain {e : Expr} {whole : Sem Value} {Q : Bool → Shared → Prop} (h : wpX M A whole (fun v s₁ => wpAny M A (truthy v) Q E s₁) E s) (he : isTrue e env whole = (do let v ← whole; standAt e.pos; holding [v] (truthy v))) : wpX M A (isTrue e env whole) Q E s := by
  rw [he]
  exact wpX_bind (wpX_mono h (fun v s₁ h₁ => wpX_bind (wpX_standAt (wpX_holding (wpX_any h₁)))) fun _ _ x => x)
theorem x_isTrue_not {x : Expr} {pos : Pos} {whole : Sem Value} {Q : Bool → Shared → Prop} (h : wpX M A (isTrue x env (eval x env)) (fun c s' => Q (!c) s') E s) : wpX M A (isTrue (.UnaryOp .Not x pos) env whole) Q E s := by
  show wpX M A (do return !(← isTrue x env (eval x env))) Q E s
  exact wpX_bind (wpX_mono h (fun c s' h' => wpX_pure h') fun _ _ x => x)
theorem x_isTrue_or {x : Expr} {rest : List Expr} {pos : Pos} {whole : Sem Value} {Q : Bool → Shared → Prop}
    (h : wpX M A (isTrue x env (eval x env)) (fun c s' => if c then Q true s' else wpX M A (isTrue (.BoolOp .Or rest pos) env whole) Q E s') E s) : wpX M A (isTrue (.BoolOp .Or (x :: rest) pos) env whole) Q E s := by
  show wpX M A (do
    match BoolOp.Or, ← isTrue x env (eval x env) with
    | .And, false => pure false
    | .Or, true => pure true
    | _, _ => allTrue .Or rest env) Q E s
  refine wpX_bind (wpX_mono h (fun c s' h' => ?_) fun _ _ x => x)
  cases c with
  | false => exact h'
  | true => exact wpX_pure h'
theorem x_Call_Name {id : Str} {p pos : Pos} {args : List Expr} {keywords : List Keyword} {Q : Value → Shared → Prop}
    (h : wpAny M A (eval (.Name id p) env) (fun f s₁ => wpX M A (callWith pos f [] (backTo pos (starEach args env)) (backToKw pos (keywordEach keywords env))) Q E s₁) E s) : wpX M A (eval (.Call (.Name id p) args keywords pos) env) Q E s := by
  rw [arm_eval_Call_Name']
  exact wpX_bindA h
theorem x_callWith {pos : Pos} {f : Value} {first : List Value} {Q : Value → Shared → Prop} {P : Heap → Prop} {args : List (Bool × Sem Value)} {keywords : List (Option Str × Sem Value)} (hplain : (args.any (·.1) || keywords.any (·.1.isNone)) = false)
    (hk : ∀ h, P h → ∃ k, (k = Keeper.frame ∨ k = Keeper.machine ∨ k = Keeper.boundFrame) ∧ Looks M h (keeperOf f) k)
    (h : wpAny M A (evalArgs f true args keywords) (fun a s₁ => P s₁.heap ∧ wpX M A (call f (first ++ a.pos) a.kw) Q E s₁) E s) : wpX M A (callWith pos f first args keywords) Q E s := by
  unfold callWith
  refine wpX_bindA (wpAny_holding (wpAny_mono h (fun a s₁ h₁ => wpX_bind (wpX_standAt ?_)) fun _ _ x => x))
  obtain ⟨k, hk', L⟩ := hk _ h₁.1
  simp only [hplain]
  refine wpX_bindA (L.here ?_)
  have tail : ∀ {t : Sem Value}, wpX M A t Q E s₁ → wpX M A (t >>= fun r => holding [r] point >>= fun _ => pure r) Q E s₁ :=
    fun ht => wpX_bind (wpX_mono ht (fun r s₂ hr => wpX_bind (wpX_holding (wpX_point (wpX_pure hr)))) fun _ _ x => x)
  have marked (mk : Value) : wpX M A (callMarked mk f (first ++ a.pos) a.kw) Q E s₁ := by unfold callMarked; exact wpX_keep h₁.2
  rcases hk' with rfl | rfl | rfl <;> dsimp only <;> first | exact tail h₁.2 | (split <;> first | exact tail h₁.2 | exact tail (marked _))
theorem x_methodCall {o : Expr} {name : Str} {apos pos : Pos} {args : List Expr} {kws : List Keyword} {pl : Sem Bool} {Q : Value → Shared → Prop}
    (h : wpAny M A (eval o env) (fun ov s₁ => wpAny M A (getMethod ov name pl) (fun fx s₂ => wpX M A (callWith pos fx.1 fx.2 (backTo pos (starEach args env)) (backToKw pos (keywordEach kws env))) Q E s₂) E s₁) E s)
    (he : eval (.Call (.Attribute o name apos) args kws pos) env = (do
      let ov ← eval o env
      standAt apos.atName
      let (f, first) ← holding [ov] (getMethod ov name pl)
      callWith pos f first (backTo pos (starEach args env)) (backToKw pos (keywordEach kws env)))) : wpX M A (eval (.Call (.Attribute o name apos) args kws pos) env) Q E s := by
  rw [he]
  exact wpX_bindA (wpAny_mono h (fun ov s₁ h₁ => wpX_bind (wpX_standAt (wpX_bindA (wpAny_holding h₁)))) fun _ _ x => x)
theorem codeX_builtin_at {prog : Program} {w : World} {R : Result → Shared → Prop} {id : String} {args : Args} {b : Builtin} (hbad : badIds.contains id = false) (hq : (Code.builtin id args).quiet = true) (hb : entryFor table id = some b)
    (h : wpAny (model prog w) A.in1 (checkBuiltinCall id args) (fun _ s₁ => wpX (model prog w) (A.under (.builtin id args)) (b args)
      (fun fin s' => match fin with | .done f => R (.ok f) s' | .again c' => badCode c' = false ∧ c'.quiet = true ∧ codeX (model prog w) A c' R s') (fun e s' => R (.error e) s') s₁)
      (fun e s' => R (.error e) s') s) : codeX (model prog w) A (.call (.builtin id) args) R s := by
  refine codeX_of_tree ?_
  show wpX _ A.in1 (do checkBuiltinCall id args; again (.builtin id args)) _ _ s
  refine wpX_bindA (wpAny_mono h (fun _ s₁ h₁ => wpX_pure ⟨hbad, hq, codeX_of_tree ?_⟩) fun _ _ h' => h')
  show wpX _ _ (match entryFor table id with | some b => b args | none => unsupported ((withoutEnding? id "#data").getD id)) _ _ s₁
  rw [hb]; exact h₁
end
section
variable {prog : Program} {w : World} {A : Around} {E : Value → Shared → Prop} {s : Shared} {env : Env} {R : Result → Shared → Prop}
theorem x_Expr {e : Expr} {pos : Pos} {Q : Flow → Shared → Prop} (h : wpX (model prog w) A (eval e env) (fun _ => Q .next) E s) (hi : interactive env = false) (hs : swapsWith e none pos.line env = pure false) : wpX (model prog w) A (exec (.Expr e pos) env) Q E s := by
  rw [exec_Expr env e pos hi hs]
  exact wpX_bind (wpX_standAt (wpX_bind (wpX_mono h (fun v s' h' => wpX_any (wpAny_dropValue h')) fun _ _ x => x)))
theorem codeX_func {body : List Stmt} {env : Env} (h : wpX (model prog w) (A.deeper env) (execs body env) (fun f s' => R (.ok (.ret (match f with | .ret v => v | _ => .none))) s')
      (fun e s' => wpX (model prog w) (A.deeper env) (leaving env e) (fun _ s'' => R (.error e) s'') (fun e' s'' => R (.error e') s'') s') s) : codeX (model prog w) A (.func body env) R s := by
  refine codeX_of_tree ?_
  show wpX _ (A.deeper env) (do point; match ← (execs body env).onRaise (leaving env) with | .ret v => PySem.ret v | _ => PySem.ret .none) _ _ s
  refine wpX_bind (wpX_point (wpX_bind (wpX_onRaise (wpX_mono h (fun f s' h' => ?_) fun _ _ h' => h'))))
  cases f <;> exact wpX_pure h'
theorem codeX_call_def {a : Addr} {o : Obj} {fd : FuncData} {body : List Stmt} {args : Args} {binds : List (Str × Value)}
    (hroom : A.depth < recursionLimit) (ho : s.heap.get? a = some o) (hdata : o.data = .func fd) (hlim : s.heap.NoLimit) (hcd : s.heap.CodeRec fd.code fd.qualname)
    (hbody : fd.body = .stmts body) (hbind : BindsTo s fd args binds) (hcell : ∀ x ∈ fd.scope.names, x.2 ≠ .cell) (hloc : ∀ x ∈ binds, fd.scope.names.lookup x.1 = some .local)
    (h : ∀ h₀, h₀.Ns s.heap.objs.size (fun x => binds.reverse.lookup x) → (∀ b o, s.heap.get? b = some o → h₀.get? b = some o) →
      wpX (model prog w) (A.deeper (callEnv fd s.heap.objs.size a)) (execs body (callEnv fd s.heap.objs.size a)) (fun f s' => R (.ok (.ret (match f with | .ret v => v | _ => .none))) s')
        (fun e s' => wpX (model prog w) (A.deeper (callEnv fd s.heap.objs.size a)) (leaving (callEnv fd s.heap.objs.size a) e) (fun _ s'' => R (.error e) s'') (fun e' s'' => R (.error e') s'') s')
        { s with heap := h₀, toks := s.toks + binds.length })
    (hco : fd.scope.isCoroutine = false) (hgen : fd.scope.isGenerator = false) (hk : fd.scope.kind = .function) : codeX (model prog w) A (.call (.ref a) args) R s := by
  have bound : wpAny (model prog w) A.in1 (bindArgs fd args) (fun binds s₁ => wpAny (model prog w) A.in1 (newFunctionEnv fd.scope fd.globals fd.closure binds (fd.qualname ++ ".<locals>.") (some a) fd.code none fd.builtins)
        (fun env s₂ => s₂.heap.NoLimit ∧ codeX (model prog w) A (.func body env) R s₂) (fun e s' => R (.error e) s') s₁) (fun e s' => R (.error e) s') s := by
    refine hbind _ _ _ _ ?_
    refine wpAny_newFunctionEnv hcell hloc (fun h₀ hns₀ hsb₀ => ⟨hlim.fresh _ hsb₀, codeX_func (h h₀ hns₀ fun b o e => ?_)⟩) hk
    exact hsb₀.extBut b o (Nat.ne_of_lt (Heap.lt_size e)) (Heap.get?_push_of_some _ e)
  refine codeX_of_tree ?_
  show wpX _ A.in1 (callAny (.ref a) args) _ _ s
  simp only [callAny]
  refine wpX_bindA (wpAny_load ho ?_)
  obtain ⟨c, oc, vs, tq, hc, hoc, hdc, hq⟩ := hcd
  simp only [hdata, callFunction, hco, hgen, hbody, hc]
  rw [hc] at bound
  refine wpX_bindA (m := field (.ref c) 1) (wpAny_field hoc hdc hq (wpX_bind (wpX_pure ?_)))
  exact wpX_bindA (wpAny_mono bound (fun binds s₁ h₁ => wpX_bindA (wpAny_mono h₁ (fun env s₂ h₂ => wpX_bindA (wpAny_enterFrame h₂.1 hroom
    (wpX_pure ⟨rfl, rfl, h₂.2⟩))) fun _ _ h' => h')) fun _ _ h' => h')
end
section
variable (X : Cx) (n : Nat) (sc : List (Str × NameKind))
noncomputable def SimEX (m : M) (e : Expr) : Prop := ∀ (env : Env) (L : Addr), EnvOk X sc env L → ∀ (A : Around), Room n A → ∀ (σ : St) (k : K), m σ k = true → ∀ (E : Value → Shared → Prop) (s : Shared) (W : Wd) (Q : Value → Shared → Prop),
  HRel X W σ s → LRel X W L σ.lo s.heap → Cont X σ s W k Q → wpX (model X.prog X.w) A (eval e env) Q E s
noncomputable def SimTX (m : MB) (e : Expr) : Prop := ∀ (env : Env) (L : Addr), EnvOk X sc env L → ∀ (A : Around), Room n A → ∀ (σ : St) (k : KB), m σ k = true → ∀ (E : Value → Shared → Prop) (s : Shared) (W : Wd) (Q : Bool → Shared → Prop),
  HRel X W σ s → LRel X W L σ.lo s.heap → ContB X σ s W k Q → wpX (model X.prog X.w) A (isTrue e env (eval e env)) Q E s
noncomputable def SimBX (m : MX) (st : List Stmt) : Prop := ∀ (env : Env) (L : Addr), EnvOk X sc env L → ∀ (A : Around), Room n A → ∀ (σ : St) (kn kb kc : KS) (kr : K), m σ kn kb kc kr = true → ∀ (E : Value → Shared → Prop) (s : Shared) (W : Wd) (Q : Flow → Shared → Prop),
  HRel X W σ s → LRel X W L σ.lo s.heap → ContS X L s W kn kb kc kr Q → wpX (model X.prog X.w) A (execs st env) Q E s
noncomputable def SimSX (m : MX) (st : Stmt) : Prop := ∀ (env : Env) (L : Addr), EnvOk X sc env L → ∀ (A : Around), Room n A → ∀ (σ : St) (kn kb kc : KS) (kr : K), m σ kn kb kc kr = true → ∀ (E : Value → Shared → Prop) (s : Shared) (W : Wd) (Q : Flow → Shared → Prop),
  HRel X W σ s → LRel X W L σ.lo s.heap → ContS X L s W kn kb kc kr Q → wpX (model X.prog X.w) A (exec st env) Q E s
end
noncomputable def FnSimX (X : Cx) (n : Nat) (f : MF) (a : Addr) (N : Nat) : Prop := ∀ (A : Around), Room n A → ∀ (as : List AV), as.length = N → ∀ (σ : St) (k : K), f as σ k = true → ∀ (E : Value → Shared → Prop) (s : Shared) (W : Wd) (Q : Value → Shared → Prop) (vs : List Value),
  HRel X W σ s → VRs X W as vs → Cont X σ s W k Q → codeX (model X.prog X.w) A (.call (.ref a) ⟨vs, []⟩) (fun r s' => match r with | .ok (.ret v) => Q v s' | .ok _ => False | .error e => E e s') s
section
variable {X : Cx} {n : Nat} {sc : List (Str × NameKind)}
theorem SimT.x {m : MB} {e : Expr} (h : SimT X n sc m e) : SimTX X n sc m e := fun env L hE A hA σ k hk E s W Q H hL C => wpX_any (h env L hE A hA σ k hk E s W Q H hL C)
theorem SimB.x {m : MX} {e : List Stmt} (h : SimB X n sc m e) : SimBX X n sc m e := fun env L hE A hA σ kn kb kc kr hk E s W Q H hL C => wpX_any (h env L hE A hA σ kn kb kc kr hk E s W Q H hL C)
theorem SimS.x {m : MX} {e : Stmt} (h : SimS X n sc m e) : SimSX X n sc m e := fun env L hE A hA σ kn kb kc kr hk E s W Q H hL C => wpX_any (h env L hE A hA σ kn kb kc kr hk E s W Q H hL C)
theorem SimBX.one {m : MX} {st : Stmt} (hm : SimSX X n sc m st) : SimBX X n sc m [st] := by
  intro env L hE A hA σ kn kb kc kr h E s W Q H hL C
  refine x_execs_cons (hm env L hE A hA σ kn kb kc kr h E s W _ H hL ⟨fun σ' W' s' h' x' H' L' => wpX_any (wpAny_execs_nil (C.nx _ _ _ h' x' H' L')), C.br, C.co, C.re⟩)
theorem SimBX.cons {a b : MX} {st : Stmt} {r : List Stmt} (ha : SimSX X n sc a st) (hb : SimBX X n sc b r) : SimBX X n sc (sq a b) (st :: r) := by
  intro env L hE A hA σ kn kb kc kr h E s W Q H hL C
  refine x_execs_cons (ha env L hE A hA σ _ kb kc kr h E s W _ H hL ⟨fun σ' W' s' h' x' H' L' => ?_, C.br, C.co, C.re⟩)
  exact hb env L hE A hA σ' kn kb kc kr h' E s' W' Q H' L' (C.step x')
theorem SimSX.expr {m : M} {e : Expr} {pos : Pos} (hs : ∀ env, swapsWith e none pos.line env = pure false) (hm : SimEX X n sc m e) : SimSX X n sc (expr m) (.Expr e pos) := by
  intro env L hE A hA σ kn kb kc kr h E s W Q H hL C
  refine x_Expr (hm env L hE A hA σ _ h E s W _ H hL fun v σ' W' s' a h' e' x' H' V' => C.nx _ _ _ h' x'.to H' (e' ▸ hL.stepE x')) ?_ (hs env)
  unfold interactive
  rw [hE.kind]; rfl
theorem SimSX.ite {t : MB} {a b : MX} {te : Expr} {x y : List Stmt} {pos : Pos} (ht : SimTX X n sc t te) (ha : SimBX X n sc a x) (hb : SimBX X n sc b y) : SimSX X n sc (ite t a b) (.If te x y pos) := by
  intro env L hE A hA σ kn kb kc kr h E s W Q H hL C
  refine x_If (ht env L hE A hA σ _ h E s W _ H hL fun c σ₁ W₁ s₁ h₁ e₁ x₁ H₁ => ?_)
  have L₁ := e₁ ▸ hL.stepE x₁
  cases c with
  | true => exact ha env L hE A hA σ₁ kn kb kc kr h₁ E s₁ W₁ Q H₁ L₁ (C.step x₁.to)
  | false => exact hb env L hE A hA σ₁ kn kb kc kr h₁ E s₁ W₁ Q H₁ L₁ (C.step x₁.to)
theorem SimSX.asgName {m : M} {e : Expr} {x : Str} {i : Nat} {pos' pos : Pos} (hx : X.nm i = x) (hl : sc.lookup x = some .local) (hs : ∀ env, swapsWith e (some (.Name x pos')) pos.line env = pure false) (hm : SimEX X n sc m e) : SimSX X n sc (asg (tname i) m) (.Assign [.Name x pos'] e pos) := by
  intro env L hE A hA σ kn kb kc kr h E s W Q H hL C
  refine x_Assign_Name (hm env L hE A hA σ _ h E s W _ H hL fun v σ' W' s' a h' e' x' H' V' => ?_) (hs env)
  exact store_ok hx hl hE (Q := Q .next) h' H' (hL.lo' x' e') V' fun σ₂ W₂ s₂ h₂ x₂ H₂ L₂ => C.nx _ _ _ h₂ ((StepE.to x').trans x₂) H₂ L₂
theorem SimSX.asg {m : M} {e te : Expr} {t : MT} {pos : Pos} (hs : ∀ env, swapsWithSole [te] e pos.line env = pure false) (hw : ∀ env, swappedStores [te] e env = pure none) (he : ∀ env, assignEach [te] env = [(false, assign te env)]) (ht : SimG X n sc t te) (hm : SimEX X n sc m e) :
    SimSX X n sc (asg t m) (.Assign [te] e pos) := by
  intro env L hE A hA σ kn kb kc kr h E s W Q H hL C
  refine x_Assign_stores (hm env L hE A hA σ _ h E s W _ H hL fun v σ' W' s' a h' e' x' H' V' => ?_) (hs env) (hw env)
  rw [he]
  show wpAny (model X.prog X.w) A (assign te env a) _ E s'
  exact ht env L hE A hA v σ' kn h' E s' W' (Q .next) a H' (hL.lo' x' e') V' fun σ₂ W₂ s₂ h₂ x₂ H₂ L₂ => C.nx _ _ _ h₂ ((StepE.to x').trans x₂) H₂ L₂
theorem SimTX.truth {m : M} {e : Expr} (hm : SimEX X n sc m e) (he : ∀ (env : Env) (whole : Sem Value), isTrue e env whole = (do let v ← whole; standAt e.pos; holding [v] (truthy v))) : SimTX X n sc (truth m) e := by
  intro env L hE A hA σ k h E s W Q H hL C
  refine x_isTrue_plain (hm env L hE A hA σ _ h E s W _ H hL fun v σ₁ W₁ s₁ a h₁ e₁ x₁ H₁ V₁ => ?_) (he _ _)
  obtain ⟨c, rfl, h₁⟩ := kTruth_ok V₁ h₁
  exact wpAny_truthy_bool (C _ _ _ _ h₁ e₁ x₁ H₁)
theorem SimTX.not {m : MB} {x : Expr} {pos : Pos} (hm : SimTX X n sc m x) : SimTX X n sc (notB m) (.UnaryOp .Not x pos) := by
  intro env L hE A hA σ k h E s W Q H hL C
  exact x_isTrue_not (hm env L hE A hA σ _ h E s W _ H hL fun c σ' W' s' h' e' x' H' => C _ _ _ _ (kNot_ok h') e' x' H')
theorem SimTX.or {a b : MB} {x y : Expr} {pos : Pos} (ha : SimTX X n sc a x) {rest : List Expr} (hb : SimTX X n sc b (.BoolOp .Or (y :: rest) pos)) : SimTX X n sc (orB a b) (.BoolOp .Or (x :: y :: rest) pos) := by
  intro env L hE A hA σ k h E s W Q H hL C
  refine x_isTrue_or (ha env L hE A hA σ _ h E s W _ H hL fun c σ₁ W₁ s₁ h₁ e₁ x₁ H₁ => ?_)
  cases c with
  | true => exact C _ _ _ _ h₁ e₁ x₁ H₁
  | false => exact hb env L hE A hA σ₁ _ h₁ E s₁ W₁ _ H₁ (e₁ ▸ hL.stepE x₁) (C.step e₁ x₁)
theorem SimTX.or1 {a : MB} {x : Expr} {pos : Pos} (ha : SimTX X n sc a x) : SimTX X n sc a (.BoolOp .Or [x] pos) := by
  intro env L hE A hA σ k h E s W Q H hL C
  refine x_isTrue_or (ha env L hE A hA σ _ h E s W _ H hL fun c σ₁ W₁ s₁ h₁ e₁ x₁ H₁ => ?_)
  cases c with
  | true => exact C _ _ _ _ h₁ e₁ x₁ H₁
  | false => exact wpX_any (isTrue_or_nil (C _ _ _ _ h₁ e₁ x₁ H₁))
theorem FnSimX.call {f : MF} {a : Addr} {N : Nat} (hf : FnSimX X n f a N) {A : Around} (hA : Room n A) {as : List AV} (hN : as.length = N) {σ : St} {k : K} (h : f as σ k = true) {E : Value → Shared → Prop} {s : Shared} {W : Wd} {Q : Value → Shared → Prop} {vs : List Value}
    (H : HRel X W σ s) (V : VRs X W as vs) (C : Cont X σ s W k Q) : wpX (model X.prog X.w) A (call (.ref a) vs) Q E s := wpX_call (hf A hA as hN σ k h E s W Q vs H V C)
theorem SimEX.callF {f : MF} {a : Addr} {ms : ML} {es : List Expr} {x : Str} {p pos : Pos} {m : Nat} (hg : nsIn X.F X.G x = some (some (.ref a))) (hl : sc.lookup x = some .globalImplicit) (hd : (x == ("__debug__" : Str)) = false) (hk : keepIn X.F (.ref a) = true)
    (hp : ∀ (env : Env), (backTo pos (starEach es env)).any (·.1) = false) (hf : FnSimX X m f a es.length) (hmn : m ≤ n) (hs : SimL X n sc ms es) : SimEX X n sc (callF f ms) (.Call (.Name x p) es [] pos) := by
  intro env L hE A hA σ k h E s W Q H hL C
  refine x_Call_Name (glob_ok hE hg hl hd H ?_)
  refine x_callWith (by rw [hp env]; rfl) (keeps_K hk) (evalArgs_of (hp env) (hs pos env L hE A hA σ _ h E s W _ H hL fun vs σ₁ W₁ s₁ as h₁ l₁ e₁ x₁ H₁ V₁ => ⟨X.FIn.keeps H₁.base, ?_⟩))
  exact hf.call (hA.weak hmn) l₁ h₁ H₁ V₁ (C.step e₁ x₁)
theorem SimEX.meth {C mi : Nat} {f : MF} {a : Addr} {o : M} {ms : ML} {oe : Expr} {es : List Expr} {x : Str} {apos pos : Pos} {m : Nat} (hC : ClsOk X C) (hx : X.nm mi = x) (hfi : findIn X.F (.ref (X.cls C)) x = some (some (.ref a))) (ht : typeIn X.F (.ref a) = some (.type "function"))
    (hk : keepIn X.F (.ref a) = true) (hp : ∀ (env : Env), (backTo pos (starEach es env)).any (·.1) = false)
    (he : ∀ (env : Env), eval (.Call (.Attribute oe x apos) es [] pos) env = (do
      let ov ← eval oe env
      standAt apos.atName
      let (f, first) ← holding [ov] (getMethod ov x (do return (← importBound oe env).getD true))
      callWith pos f first (backTo pos (starEach es env)) (backToKw pos (keywordEach [] env))))
    (hf : FnSimX X m f a (es.length + 1)) (hmn : m ≤ n) (ho : SimE X n sc o oe) (hs : SimL X n sc ms es) : SimEX X n sc (meth C mi f o ms) (.Call (.Attribute oe x apos) es [] pos) := by
  intro env L hE A hA σ k h E s W Q H hL Co
  refine x_methodCall (ho env L hE A hA σ _ h E s W _ H hL fun v σ₁ W₁ s₁ va h₁ e₁ x₁ H₁ V₁ => ?_) (he env)
  obtain ⟨p, od, rfl, I, hl, h2⟩ := chkM_ok H₁ V₁ h₁
  refine method_fn (od := some od) (X.FIn.keeps H₁.base) I hC.ga hC.gt hfi ht (by show (lookIn x od).map (·.isSome) = some false; rw [← hx, hl]; rfl) ?_
  refine x_callWith (by rw [hp env]; rfl) (keeps_K hk) (evalArgs_of (hp env) (hs pos env L hE A hA σ₁ _ h2 E s₁ W₁ _ H₁ (e₁ ▸ hL.stepE x₁) fun vs σ₂ W₂ s₂ as h₃ l₂ e₂ x₂ H₂ V₂ => ⟨X.FIn.keeps H₂.base, ?_⟩))
  exact hf.call (hA.weak hmn) (as := v :: vs) (vs := .ref p.1 :: as) (by simp [l₂]) h₃ H₂ (.cons (V₁.le x₂.le) V₂) (Co.step (e₂.trans e₁) (x₁.trans x₂))
theorem FnSimX.mk {ps : List Nat} {ds : List AV} {dv : List Value} {body : MX} {a : Addr} {o : Obj} {fd : FuncData} {stmts : List Stmt} {N : Nat} (ho : X.F.lookup a = some o) (hd : o.data = .func fd) (hb : fd.body = .stmts stmts)
    (hcode : codeIn X.F fd.code fd.qualname = true) (hco : fd.scope.isCoroutine = false) (hgen : fd.scope.isGenerator = false) (hk : fd.scope.kind = .function) (hcell : ∀ x ∈ fd.scope.names, x.2 ≠ .cell)
    (hG : fd.globals = X.G) (hB : fd.builtins = X.B) (hbind : ∀ vs, vs.length = N → ∀ s : Shared, X.F.In s.heap → BindsTo s fd ⟨vs, []⟩ ((ps.map X.nm).zip (vs ++ dv)))
    (hps : ps.Nodup) (hloc : ∀ p ∈ ps, fd.scope.names.lookup (X.nm p) = some .local) (hdv : ∀ W, VRs X W ds dv) (hm : SimBX X n fd.scope.names body stmts) : FnSimX X (n + 1) (fn ps ds body) a N := by
  intro A hA as hN σ k h E s W Q vs H V C
  obtain ⟨h1, -, -⟩ := bind_ok h
  have h2 := setLo_ok h1
  have hd0 := hA.dep
  have hroom : A.depth < recursionLimit := by unfold recursionLimit; omega
  have hF := X.FIn.keeps H.base
  refine (codeX_call_def (binds := (ps.map X.nm).zip (vs ++ dv)) hroom (hF _ _ ho) hd (X.lim.keeps H.base) (codeRec_of hF hcode) hb (hbind vs (by rw [V.length]; exact hN) s hF) hcell ?_ (fun h₀ hns hk0 => ?_) hco hgen hk)
  · intro x hx
    have := (List.of_mem_zip (show (x.1, x.2) ∈ _ from hx)).1
    obtain ⟨p, hp, e⟩ := List.mem_map.mp this
    rw [← e]; exact hloc p hp
  · obtain ⟨H', S'⟩ := H.grow hk0 (s.toks + ((ps.map X.nm).zip (vs ++ dv)).length)
    have hE : EnvOk X fd.scope.names (callEnv fd s.heap.objs.size a) s.heap.objs.size := ⟨hk, rfl, rfl, hG, hB⟩
    have hA' : Room n (A.deeper (callEnv fd s.heap.objs.size a)) := ⟨hA.hand, by show A.depth + 1 + n ≤ 900; omega, by have := hA.un; show A.units + 3 + 200 * n ≤ 9000; omega⟩
    have no := (nx_fresh H (fresh_none s.heap)).1
    have nh := (nx_fresh H (fresh_none s.heap)).2
    refine hm _ _ hE _ hA' ⟨σ.hp, σ.nx, zipFL ps (as ++ ds), σ.ms⟩ _ _ _ _ h2 _ _ W _ (H'.lo _) ⟨_, hns, zip_rel hps (V.append (hdv W)), no, nh⟩ ⟨fun σ' W' s' h' x' H'' L' => ?_, fun σ' W' s' h' x' H'' L' => ?_, fun σ' W' s' h' x' H'' L' => ?_, fun v σ' W' s' a h' x' H'' V' => ?_⟩
    · have x2 := call_step hk0 x'
      exact C .none _ _ _ _ (kBack_ok h') rfl x2 (H''.lo _) rfl
    · cases h'
    · cases h'
    · have x2 := call_step hk0 x'
      exact C _ _ _ _ _ (kBack_ok h') rfl x2 (H''.lo _) V'
end
section
variable {M : Model} {A : Around} {E : Value → Shared → Prop} {s : Shared}
theorem x_iteF {α : Type} {c : Bool} {a b : Sem α} {Q : α → Shared → Prop} (hc : c = false) (h : wpX M A b Q E s) : wpX M A (if c = true then a else b) Q E s := by subst hc; exact h
theorem x_iteT {α : Type} {c : Bool} {a b : Sem α} {Q : α → Shared → Prop} (hc : c = true) (h : wpX M A a Q E s) : wpX M A (if c = true then a else b) Q E s := by subst hc; exact h
theorem x_special {obj f : Value} {name : Str} {args : List Value} {kw : List (Str × Value)} {Q : Option Value → Shared → Prop} (L1 : Looks M s.heap (specialOf obj name) (some f)) (L2 : Looks M s.heap (bindSpecial f obj) (f, [obj]))
    (h : codeX M A (.call f ⟨obj :: args, kw⟩) (fun r s' => match r with | .ok (.ret v) => Q (some v) s' | .ok _ => False | .error e => E e s') s) : wpX M A (callSpecial? obj name args kw) Q E s := by
  unfold callSpecial?
  refine wpX_bindA (L1.here ?_)
  refine wpX_holding (wpX_bindA (L2.here ?_))
  exact wpX_bind (wpX_call (codeX_mono h fun r s' z => by rcases r with e | (v | _ | _ | _) <;> first | exact wpX_pure z | exact z))
end
section
variable {prog : Program} {w : World} {A : Around} {C : Addr} {R : Result → Shared → Prop} {h : Heap} {g : Array GenState} {d : Drawn} {t : Nat} {os : OsState}
theorem makeX_core {rest : List Value} {kw : List (Str × Value)} {init : Value} (Y : Makes (model prog w) h C) (hi : Looks (model prog w) h (typeLookup (.ref C) "__init__") (some init))
    (hb : ∀ self, Looks (model prog w) h (bindSpecial init self) (init, [self])) (hne : (some init != some (Value.builtin "object.__init__")) = true ∨ (rest = [] ∧ kw = []))
    (hq : codeX (model prog w) (A.under (.builtin "type.__call__" ⟨.ref C :: rest, kw⟩)) (.call init ⟨.ref (h.objs.size + 1) :: rest, kw⟩) (InitBack (h.objs.size + 1) R) ⟨(h.push emptyDict).push (instObj C h.objs.size), g, d, t, os⟩) :
    codeX (model prog w) A (.call (.ref C) ⟨rest, kw⟩) R ⟨h, g, d, t, os⟩ := by
  have Y' := Y
  obtain ⟨⟨oc, od, cd, sl, hC, e1, e2, e4⟩, made, base, self, top, call, typ⟩ := Y
  refine codeX_of_tree ?_
  show wpX _ _ (callAny (.ref C) _) _ _ _
  simp only [callAny]
  refine wpX_bindA (wpAny_load hC ?_)
  show wpX _ _ (callAny.viaDunder (.ref C) _) _ _ _
  unfold callAny.viaDunder
  refine wpX_bindA (call.at ?_)
  dsimp only
  rw [tc_bind]
  refine wpX_bind (wpX_pure (wpX_bind (wpX_pure ?_)))
  refine wpX_pure (a := Fin.again (.call (.builtin "type.__call__") ⟨.ref C :: rest, kw⟩)) ⟨rfl, rfl, ?_⟩
  refine codeX_builtin_at (by decide +kernel) (Code.quiet_builtin _ (by decide +kernel)) entry_typeCall (check_slot tc_kind tc_split typ (tc_args _ _ _) ?_)
  have hm : Looks (model prog w) h (mroOf (.ref C)) cd.mro := ((Looks.ld (part := none) hC).andThen .now).andThen .now
  unfold Builtin.«type.__call__»
  dsimp only
  refine x_iteF rfl ?_
  refine wpX_bindA (hm.at ?_)
  refine x_iteF e4 ?_
  refine wpX_bindA (made.at ?_)
  refine wpX_bind (wpX_pure ?_)
  refine wpX_bindA (wpAny_holding (wpAny_call (new_K Y' hi hne ?_)))
  have k : ∀ b o, h.get? b = some o → ((h.push emptyDict).push (instObj C h.objs.size)).get? b = some o := fun b o e => Heap.get?_push_of_some _ (Heap.get?_push_of_some _ e)
  have hx : ((h.push emptyDict).push (instObj C h.objs.size)).get? (h.objs.size + 1) = some (instObj C h.objs.size) := by heap_get
  have t1 : Looks (model prog w) ((h.push emptyDict).push (instObj C h.objs.size)) (typeOf (.ref (h.objs.size + 1))) (.ref C) := (Looks.ld hx).andThen .now
  have s1 := self.keeps k
  have i1 := hi.keeps k
  have b1 := (hb (.ref (h.objs.size + 1))).keeps k
  refine wpX_bindA ((show Looks (model prog w) ((h.push emptyDict).push (instObj C h.objs.size)) (isInstance (.ref (h.objs.size + 1)) (.ref C)) true from t1.andThen s1).at ?_)
  refine x_iteF rfl ?_
  refine wpX_bind (wpX_holding (x_special (t1.andThen i1) b1 (codeX_mono hq fun r s' z => ?_)))
  rcases r with e | (v | _ | _ | _) <;> first | exact z | exact z.elim | skip
  obtain ⟨rfl, z⟩ := z
  exact wpX_pure z
end
section
variable {X : Cx} {n : Nat} {sc : List (Str × NameKind)}
theorem makeX_ok {C : Nat} {f : MF} {a : Addr} {m N : Nat} (hm : makesIn X.F (X.cls C) = true) (hi : findIn X.F (.ref (X.cls C)) "__init__" = some (some (.ref a))) (ht : typeIn X.F (.ref a) = some (.type "function")) (hf : FnSimX X m f a (N + 1)) {A : Around} (hA : Room (m + 1) A)
    {as : List AV} (hN : as.length = N) {σ : St} {k : K} (h : new σ (.inst C .nil) (fun v σ => f (v :: as) σ (kFst k v)) = true) {E : Value → Shared → Prop} {s : Shared} {W : Wd} {Q : Value → Shared → Prop} {vs : List Value} (H : HRel X W σ s) (V : VRs X W as vs) (Co : Cont X σ s W k Q) :
    wpX (model X.prog X.w) A (call (.ref (X.cls C)) vs) Q E s := by
  obtain ⟨hh, g, d, t, os⟩ := s
  have hF := X.FIn.keeps H.base
  refine wpX_call (makeX_core (makes_of hF hm) (looks_findIn hF hi) (fun self => bind_fn hF self ht) (.inl rfl) ?_)
  obtain ⟨hp, e, h1⟩ := new_ok h
  have k0 : ∀ b o, hh.get? b = some o → ((hh.push emptyDict).push (instObj (X.cls C) hh.objs.size)).get? b = some o := fun b o g => Heap.get?_push_of_some _ (Heap.get?_push_of_some _ g)
  have g1 : ((hh.push emptyDict).push (instObj (X.cls C) hh.objs.size)).get? (hh.objs.size + 1) = some (instObj (X.cls C) hh.objs.size) := by
    have := Heap.get?_push_size (hh.push emptyDict) (o := instObj (X.cls C) hh.objs.size) rfl
    rwa [Heap.size_push] at this
  have g2 : ((hh.push emptyDict).push (instObj (X.cls C) hh.objs.size)).get? hh.objs.size = some emptyDict := Heap.get?_push_of_some _ (Heap.get?_push_size _ rfl)
  obtain ⟨H', S'⟩ := H.new (h' := (hh.push emptyDict).push (instObj (X.cls C) hh.objs.size)) (t := t) (p := (hh.objs.size + 1, hh.objs.size)) (o := .inst C .nil) (hp := hp) k0 (none_beyond _ (Nat.le_succ _)) (fresh_none _) (by rw [g1]; rfl) (by rw [g2]; rfl)
    ⟨Nat.succ_ne_self _, g1, fun _ => none, ⟨emptyDict, #[], 0, g2, rfl, fun e he => by simp at he, fun name => rfl, Nat.le_refl _⟩, fun x => rfl⟩ e
  have hA' : Room m (A.under (.builtin "type.__call__" ⟨.ref (X.cls C) :: vs, []⟩)) := ⟨hA.hand, by have := hA.dep; show A.depth + Code.weight _ + m ≤ 900; rw [tcw]; omega, by have := hA.un; show A.units + Code.cUnits _ + 200 * m ≤ 9000; rw [tcu]; omega⟩
  have own : VR X (W.add (hh.objs.size + 1, hh.objs.size)) (.own σ.nx) (.ref (hh.objs.size + 1)) := ⟨(hh.objs.size + 1, hh.objs.size), by
    show (W.ρ ++ [_])[σ.nx]? = _
    rw [H.nx, List.getElem?_append_right (Nat.le_refl _), Nat.sub_self]; rfl, rfl⟩
  have C2 : Cont X ⟨hp, σ.nx + 1, σ.lo, σ.ms⟩ ⟨(hh.push emptyDict).push (instObj (X.cls C) hh.objs.size), g, d, t, os⟩ (W.add (hh.objs.size + 1, hh.objs.size)) (kFst k (.own σ.nx)) (fun v s' => v = .none ∧ Q (.ref (hh.objs.size + 1)) s') := by
    intro v σ' W' s' a h' e' x' H' V'
    cases v <;> try exact (nomatch (show false = true from h'))
    exact ⟨V', Co _ _ _ _ _ h' e' (S'.trans x') H' (own.le x'.le)⟩
  refine codeX_mono (hf _ hA' _ (by simp [hN]) _ _ h1 E _ _ _ (.ref (hh.objs.size + 1) :: vs) H' (.cons own (V.le S'.le)) C2) fun r s' z => ?_
  rcases r with e | (v | _ | _ | _) <;> first | exact z | exact z.elim
theorem SimEX.callC {C : Nat} {f : MF} {a : Addr} {ms : ML} {es : List Expr} {x : Str} {p pos : Pos} {m : Nat} (hg : nsIn X.F X.G x = some (some (.ref (X.cls C)))) (hl : sc.lookup x = some .globalImplicit) (hd : (x == ("__debug__" : Str)) = false) (hk : keepIn X.F (.ref (X.cls C)) = true)
    (hp : ∀ (env : Env), (backTo pos (starEach es env)).any (·.1) = false) (hm : makesIn X.F (X.cls C) = true) (hi : findIn X.F (.ref (X.cls C)) "__init__" = some (some (.ref a))) (ht : typeIn X.F (.ref a) = some (.type "function")) (hf : FnSimX X m f a (es.length + 1)) (hmn : m + 1 ≤ n)
    (hs : SimL X n sc ms es) : SimEX X n sc (callC C f ms) (.Call (.Name x p) es [] pos) := by
  intro env L hE A hA σ k h E s W Q H hL Co
  refine x_Call_Name (glob_ok hE hg hl hd H ?_)
  refine x_callWith (by rw [hp env]; rfl) (keeps_K hk) (evalArgs_of (hp env) (hs pos env L hE A hA σ _ h E s W _ H hL fun vs σ₁ W₁ s₁ as h₁ l₁ e₁ x₁ H₁ V₁ => ⟨X.FIn.keeps H₁.base, ?_⟩))
  exact makeX_ok hm hi ht hf (hA.weak hmn) l₁ h₁ H₁ V₁ (Co.step e₁ x₁)
end
theorem mro_ba : mroOf (.type "bytearray") = pure [.type "bytearray", .type "object"] := by rw [mroOf_type]; kernel_rfl
theorem lookup_ba_new : typeLookup (.type "bytearray") "__new__" = pure (some (.builtin "bytearray.__new__")) := by rw [typeLookup_type, builtinLookup_eq_fast]; kernel_rfl
theorem made_ba : Bind.madeBy (.type "bytearray") = pure (some "bytearray.__new__") := madeBy_type mro_ba lookup_ba_new (by decide +kernel)
theorem sub_ba : isSubtype (.type "bytearray") (.type "bytearray") = pure true := by rw [isSubtype_type]; kernel_rfl
theorem slot_ba_init : Slot "bytearray" "__init__" "bytearray.__init__" :=
  Slot.of (T := "bytearray") (name := "__init__") (owner := "bytearray") (n := "__init__") (by rw [typeLookup_type, builtinLookup_eq_fast]; kernel_rfl) (by decide +kernel) (by decide +kernel) (by decide +kernel)
    (.inl (by decide +kernel)) (by rw [isSubtype_type]; kernel_rfl)
theorem called_ba : TypeCalled "bytearray" "bytearray.__new__" "bytearray.__init__" :=
  ⟨by decide +kernel, by decide +kernel, ⟨_, _, mro_ba⟩, made_ba, by decide +kernel, sub_ba, slot_ba_init⟩
theorem typeCall_ba : checkTypeCall "bytearray" ⟨[], []⟩ = pure () := by kernel_rfl
theorem newCall_ba : checkBuiltinCall "bytearray.__new__" ⟨[.type "bytearray"], []⟩ = pure () := by kernel_rfl
theorem entry_ba_new : entryFor table "bytearray.__new__" = some Builtin.«list.__new__» :=
  entryFor_alias (id' := "list.__new__") (by rw [fastTable_eq_tree]; kernel_rfl) (by first | rfl | decide +kernel) (by decide +kernel) (by rw [fastTable_eq_tree]; kernel_rfl)
theorem plain_ba_new : plainId "bytearray.__new__" = true := by decide +kernel
theorem entry_ba_init : entryFor table "bytearray.__init__" = some Builtin.«bytearray.__init__» := entryFor_of_tree (by kernel_rfl)
theorem args_ba_init (a : Value) : argsOk "bytearray.__init__" ⟨[a], []⟩ := by unfold argsOk; kernel_rfl
set_option maxRecDepth 1000000 in
set_option maxHeartbeats 4000000 in
theorem owner_ba_new : ("bytearray.__new__".splitOn ".__new__").headD "" = "bytearray" := by simp +decide [String.splitOn, String.splitOnAux]
theorem type_ba_rel : typeLookup (.type "bytearray") (Str.ofString "__release_buffer__") = pure (some (.builtin "bytearray.__release_buffer__")) := by rw [typeLookup_type, builtinLookup_eq_fast]; kernel_rfl
section
variable {prog : Program} {w : World} {A : Around} {E : Value → Shared → Prop} {s : Shared}
theorem code_ba_new {R : Result → Shared → Prop} (h : R (.ok (.ret (.ref s.heap.objs.size))) { s with heap := s.heap.push { cls := .type "bytearray", data := .bytearray #[] } }) :
    codeAny (model prog w) A (.call (.builtin "bytearray.__new__") ⟨[.type "bytearray"], []⟩) R s := by
  refine codeAny_of_tree ?_
  show wpAny _ A.in1 (do checkBuiltinCall "bytearray.__new__" ⟨[.type "bytearray"], []⟩; again (.builtin "bytearray.__new__" ⟨[.type "bytearray"], []⟩)) _ _ s
  refine wpAny_bind (wpAny_of_eq newCall_ba (wpAny_pure ⟨plainId_quiet plain_ba_new _, codeAny_builtin_stack entry_ba_new rfl fun p st => ?_⟩))
  rw [Around.under_plainId plain_ba_new _]
  have hsub := sub_ba
  have hown := owner_ba_new
  obtain ⟨hp, g, d, tk, os⟩ := s
  simp only [hown]
  wp_walk
  exact h
theorem ba_own_rel {a : Addr} {Q : Bool → Shared → Prop} (hT : s.TypeIs (.ref a) "bytearray") (q : Q false s) : wpAny (model prog w) A (Builtin.Bytes.ownRelease (.ref a)) Q E s := by
  unfold Builtin.Bytes.ownRelease Builtin.Bytes.slotIsOwn
  refine wpAny_bind (wpAny_bind (wpAny_specialOf hT type_ba_rel ?_))
  show wpAny _ _ (if (!"bytearray.__release_buffer__".endsWith ("." ++ "__release_buffer__")) = true then _ else _) _ _ _
  rw [show (!"bytearray.__release_buffer__".endsWith ("." ++ "__release_buffer__")) = false by decide +kernel, show "bytearray.__release_buffer__".dropRight ("__release_buffer__".length + 1) = "bytearray" by decide +kernel]
  exact wpAny_isInstance hT sub_ba (wpAny_pure q)
theorem ba_bind : Builtin.Bytes.bindOptional "bytearray.__init__" "bytearray" ["source", "encoding", "errors"] [] [] = pure [none, none, none] := by kernel_rfl
theorem x_notHeld {a : Addr} {b : Array UInt8} {z : Nat} {Q : Bool → Shared → Prop} (g : s.heap.get? a = some (baObj b 0)) (q : Q false s) :
    wpX (model prog w) A (Builtin.Bytes.exported (.ref a) <||> (do return (← Builtin.Bytes.exportsOf (.ref a)) > 0)) Q E s := by
  refine wpX_bind (wpX_exported ?_)
  show wpX _ _ (Builtin.Bytes.exportsOf (.ref a) >>= _) _ _ _
  refine wpX_bindA ?_
  unfold Builtin.Bytes.exportsOf
  refine wpAny_bind (wpAny_load g ?_)
  exact wpAny_pure (wpX_pure q)
end
section
variable {prog : Program} {w : World} {A : Around} {E : Value → Shared → Prop} {s : Shared}
theorem codeX_builtin {R : Result → Shared → Prop} {id : String} {args : Args} {b : Builtin} (hb : entryFor table id = some b)
    (h : wpX (model prog w) (A.under (.builtin id args)) (b args) (fun fin s' => match fin with | .done f => R (.ok f) s' | .again c' => badCode c' = false ∧ c'.quiet = true ∧ codeX (model prog w) A c' R s') (fun e s' => R (.error e) s') s) : codeX (model prog w) A (.builtin id args) R s := by
  refine codeX_of_tree ?_
  show wpX _ _ (match entryFor table id with | some b => b args | none => unsupported ((withoutEnding? id "#data").getD id)) _ _ s
  rw [hb]; exact h
theorem x_write {a : Addr} {b : Array UInt8} {f : Array UInt8 → Array UInt8} {Q : Unit → Shared → Prop} (g : s.heap.get? a = some (baObj b 0)) (hz : (f b).size ≤ sizeLine)
    (q : ∀ h', h'.get? a = some (baObj (f b) 0) → Heap.SameBut a s.heap h' → Q () { s with heap := h' }) : wpAny (model prog w) A (Builtin.Bytes.write (.ref a) f) Q E s := by
  show wpAny _ _ (updateBytearray a f) _ _ _
  unfold updateBytearray
  refine wpAny_bind (wpAny_load g ?_)
  show wpAny _ _ (update a (Obj.mapBytearray f) >>= fun _ => lookBehind a) _ _ _
  refine wpAny_bind (wpAny_update g ?_)
  have g2 : (s.heap.update a (Obj.mapBytearray f)).get? a = some (baObj (f b) 0) := Heap.get?_update_self (Obj.mapBytearray f) g rfl
  refine wpAny_lookBehind g2 ?_ (q _ g2 ⟨Heap.size_update .., fun c hc => Heap.get?_update_other _ _ (Ne.symm hc)⟩)
  show (if (f b).size > sizeLine then some "bytearray:memory" else none) = none
  rw [if_neg (by omega)]
theorem ba_init {a : Addr} {P : Fin → Shared → Prop} (g : s.heap.get? a = some (baObj #[] 0)) (q : ∀ h', h'.get? a = some (baObj #[] 0) → Heap.SameBut a s.heap h' → P (.done (.ret .none)) { s with heap := h' }) :
    wpX (model prog w) A (Builtin.«bytearray.__init__» ⟨[.ref a], []⟩) P E s := by
  unfold Builtin.«bytearray.__init__»
  dsimp only
  refine wpX_bindA (ba_own_rel ⟨_, g, rfl⟩ ?_)
  refine x_iteF rfl ?_
  rw [ba_bind]
  refine wpX_bind (wpX_pure ?_)
  dsimp only
  refine wpX_bind (wpX_pure (wpX_bind (wpX_pure ?_)))
  refine wpX_bind (x_notHeld (z := 0) g ?_)
  refine x_iteF rfl ?_
  refine wpX_bindA (x_write g (Nat.zero_le _) fun h' g' sb => ?_)
  refine wpX_bind (wpX_pure ?_)
  exact wpX_pure (q h' g' sb)
theorem code_ba_init {a : Addr} {R : Result → Shared → Prop} (g : s.heap.get? a = some (baObj #[] 0)) (q : ∀ h', h'.get? a = some (baObj #[] 0) → Heap.SameBut a s.heap h' → R (.ok (.ret .none)) { s with heap := h' }) :
    codeX (model prog w) A (.call (.builtin "bytearray.__init__") ⟨[.ref a], []⟩) R s := by
  have hT : s.TypeIs (.ref a) "bytearray" := ⟨_, g, rfl⟩
  refine codeX_builtin_at (by decide +kernel) (plainId_quiet slot_ba_init.plain _) entry_ba_init (slot_ba_init.check _ _ _ _ _ _ _ _ hT (args_ba_init _) ?_)
  rw [Around.under_plainId slot_ba_init.plain _]
  exact ba_init g q
theorem Looks.typ {M : Model} {h : Heap} {a : Addr} {ob : Obj} {name : Str} {f : Option Value} (g : h.get? a = some ob) (e : typeLookup ob.cls name = pure f) : Looks M h (specialOf (.ref a) name) f :=
  ((Looks.ld g).andThen .now).andThen (Looks.of_pure e)
theorem x_call_ba {Q : Value → Shared → Prop} (q : ∀ h', (∀ b o, s.heap.get? b = some o → h'.get? b = some o) → h'.get? s.heap.objs.size = some (baObj #[] 0) → Q (.ref s.heap.objs.size) { s with heap := h' }) :
    wpX (model prog w) A (call (.type "bytearray") []) Q E s := by
  refine wpX_call (codeX_of_tree ?_)
  show wpX _ _ (callAny (.type "bytearray") _) _ _ _
  refine wpX_pure (a := Fin.again (.builtin "type.__call__" ⟨[.type "bytearray"], []⟩)) ⟨by decide +kernel, Code.quiet_builtin _ (by decide +kernel), codeX_builtin F.entry_type_call ?_⟩
  rw [Around.under_plain (weight_type_call_type "bytearray" [] []) (units_type_call_type "bytearray" [] [])]
  unfold Builtin.«type.__call__»
  dsimp only
  refine x_iteF called_ba.notType ?_
  refine x_iteF called_ba.canCreate ?_
  rw [typeCall_ba]
  refine wpX_bind (wpX_pure ?_)
  rw [mro_ba]
  refine wpX_bind (wpX_pure ?_)
  refine x_iteF rfl ?_
  rw [made_ba]
  refine wpX_bind (wpX_pure ?_)
  dsimp only
  refine wpX_bind (wpX_pure ?_)
  obtain ⟨hh, g, d, t, os⟩ := s
  refine wpX_bindA (wpAny_holding (wpAny_call (code_ba_new ?_)))
  have g0 : (hh.push { cls := .type "bytearray", data := .bytearray #[] }).get? hh.objs.size = some (baObj #[] 0) := Heap.get?_push_size _ rfl
  have hT : Shared.TypeIs ⟨hh.push { cls := .type "bytearray", data := .bytearray #[] }, g, d, t, os⟩ (.ref hh.objs.size) "bytearray" := ⟨_, g0, rfl⟩
  refine wpX_bindA (wpAny_isInstance hT sub_ba ?_)
  refine x_iteF rfl ?_
  refine wpX_bind (wpX_holding (x_special (f := .builtin "bytearray.__init__") (Looks.typ g0 slot_ba_init.lookup) (Looks.of_pure (slot_ba_init.bind _)) ?_))
  refine code_ba_init (s := ⟨hh.push { cls := .type "bytearray", data := .bytearray #[] }, g, d, t, os⟩) g0 fun h' g' sb => ?_
  refine x_iteF rfl (wpX_pure (q _ (fun b o e => ?_) g'))
  exact (sb.2 b (Nat.ne_of_lt (Heap.lt_size e))).trans (Heap.get?_push_of_some _ e)
end
section
variable {prog : Program} {w : World} {A : Around} {E : Value → Shared → Prop} {s : Shared}
theorem bytes_take {id : String} {b : Array UInt8} {t : Tok} {f : Int} {Q : Option (Array UInt8 × Option Value) → Shared → Prop} (q : Q (some (b, none)) s) : wpAny (model prog w) A (Builtin.Bytes.takeBufferQuiet? id (.bytes b t) f) Q E s := by
  unfold Builtin.Bytes.takeBufferQuiet?
  refine wpAny_bind (wpAny_attempt ?_)
  unfold Builtin.Bytes.takeBuffer?
  refine wpAny_bind (wpAny_specialOf (typeIs_bytes s b t) tl_buffer ?_)
  refine wpAny_bind (bytes_own ?_)
  refine wpAny_bind (wpAny_specialOf (typeIs_bytes s b t) tl_buffer ?_)
  refine wpAny_bind (bytes_buffer ?_)
  exact wpAny_pure (wpAny_pure q)
theorem x_check {a : Addr} {b : Array UInt8} {Q : Unit → Shared → Prop} (g : s.heap.get? a = some (baObj b 0)) (q : Q () s) : wpX (model prog w) A (Builtin.Bytes.checkResize (.ref a)) Q E s := by
  unfold Builtin.Bytes.checkResize
  refine wpX_bind (x_notHeld (z := 0) g ?_)
  exact x_iteF rfl (wpX_pure q)
theorem ba_extend {a : Addr} {b c : Array UInt8} {t : Tok} {P : Fin → Shared → Prop} (g : s.heap.get? a = some (baObj b 0)) (hz : (b ++ c).size ≤ sizeLine) (q : ∀ h', h'.get? a = some (baObj (b ++ c) 0) → Heap.SameBut a s.heap h' → P (.done (.ret .none)) { s with heap := h' }) :
    wpX (model prog w) A (Builtin.«bytearray.extend» ⟨[.ref a, .bytes c t], []⟩) P E s := by
  have tail : wpX (model prog w) A (Builtin.Bytes.write (.ref a) (· ++ c) >>= fun _ => PySem.ret .none) P E s := by
    refine wpX_bindA (x_write g hz fun h' g' sb => ?_)
    exact wpX_pure (q h' g' sb)
  unfold Builtin.«bytearray.extend»
  refine wpX_bind (wpX_pure ?_)
  dsimp only
  refine wpX_bindA (wpAny_specialOf (typeIs_bytes s c t) tl_buffer ?_)
  refine x_iteT rfl ?_
  refine wpX_bind (wpX_any (wpAny_rule ?_))
  refine wpX_bindA ?_
  unfold Builtin.Bytes.payload Builtin.Bytes.payload?
  refine wpAny_bind (wpAny_bind (wpAny_load g (wpAny_pure (wpAny_pure ?_))))
  dsimp only
  refine wpX_bindA (bytes_take ?_)
  dsimp only
  refine x_iteT rfl ?_
  show wpX _ _ (if (!c.isEmpty) = true then Builtin.Bytes.checkResize (.ref a) >>= fun _ => (Builtin.Bytes.write (.ref a) (· ++ c) >>= fun _ => PySem.ret .none) else (Builtin.Bytes.write (.ref a) (· ++ c) >>= fun _ => PySem.ret .none)) _ _ _
  cases hc : (!c.isEmpty) with
  | false => exact x_iteF rfl tail
  | true => exact x_iteT rfl (wpX_bind (x_check g tail))
end
section
variable {X : Cx} {n : Nat} {sc : List (Str × NameKind)}
theorem onBarr_ok {o : AO} {f : List Nat → Bool} (h : onBarr o f = true) : ∃ l, o = .barr l ∧ f l = true := by
  cases o <;> first | exact (nomatch (show false = true from h)) | exact ⟨_, rfl, h⟩
theorem SimEX.bytearray {x : Str} {p pos : Pos} (hg : nsIn X.F X.G x = some none) (hb : nsIn X.F X.B x = some (some (.type "bytearray"))) (hl : sc.lookup x = some .globalImplicit) (hd : (x == ("__debug__" : Str)) = false) :
    SimEX X n sc (callB b_bytearray nil) (.Call (.Name x p) [] [] pos) := by
  intro env L hE A hA σ k h E s W Q H hL C
  refine x_Call_Name (builtin_ok hE hg hb hl hd H ?_)
  refine x_callWith (P := fun _ => True) rfl (keeps_v (by intro a q; injection q)) ?_
  show wpAny _ _ (evalArgs _ true [] []) _ _ _
  refine evalArgs_of rfl (spliced_nil ⟨trivial, ?_⟩)
  have h : new σ (.barr []) k = true := h
  refine x_call_ba fun h' k0 g => ?_
  exact made_rel H h k0 g (fresh_none _) ⟨Nat.zero_le _, (fun x hx => by cases hx), g⟩ C s.toks
theorem SimEX.extend {o : M} {m : M} {oe e : Expr} {apos pos : Pos} (hst : ∀ env, starEach [e] env = [(false, eval e env)])
    (he : ∀ (env : Env), eval (.Call (.Attribute oe "extend" apos) [e] [] pos) env = (do
      let ov ← eval oe env
      standAt apos.atName
      let (f, first) ← holding [ov] (getMethod ov "extend" (do return (← importBound oe env).getD true))
      callWith pos f first (backTo pos (starEach [e] env)) (backToKw pos (keywordEach [] env))))
    (ho : SimE X n sc o oe) (hm : SimE X n sc m e) : SimEX X n sc (Mine.bmeth 4 m_extendB o (cons m nil)) (.Call (.Attribute oe "extend" apos) [e] [] pos) := by
  intro env L hE A hA σ k h E s W Q H hL Co
  refine x_methodCall (ho env L hE A hA σ _ h E s W _ H hL fun v σ₁ W₁ s₁ va h₁ e₁ x₁ H₁ V₁ => ?_) (he env)
  obtain ⟨i, rfl, h2⟩ := onOwn_ok h₁
  obtain ⟨p, ob, hp, rfl, ho', ro, h3⟩ := own_obj H₁ V₁ h2
  obtain ⟨h4, hT, hD⟩ := isKind_ok h3 ro
  refine getMethod_builtin hT plainAttrs_bytearray slot_ba_extend type_ba_extend (fun a e => by injection e with e; subst e; exact hD) ?_
  have hpl : (backTo pos (starEach [e] env)).any (·.1) = false := by rw [hst]; rfl
  refine x_callWith (P := fun _ => True) (by rw [hpl]; rfl) (keeps_v (by intro a q; injection q)) (evalArgs_of hpl ?_)
  rw [hst]
  show wpAny (model X.prog X.w) A (spliced ((false, eval e env) :: [])) _ E s₁
  refine spliced_cons (hm env L hE A hA σ₁ _ h4 E s₁ W₁ _ H₁ (hL.lo' x₁ e₁) fun u σ₂ W₂ s₂ vb h₅ e₂ x₂ H₂ V₂ => spliced_nil ⟨trivial, ?_⟩)
  have h6 : σ₂.hp.get i (fun o => m_extendB i o [u] σ₂ k) = true := h₅
  obtain ⟨p', o', hp', ep, ho₂, ro₂, h7⟩ := own_obj H₂ (V₁.le x₂.le) h6
  have : p' = p := by
    have := x₂.le.ρ _ _ hp
    rw [hp'] at this
    exact Option.some.inj this
  subst this
  obtain ⟨l, rfl, h8⟩ := onBarr_ok h7
  obtain ⟨b, rfl, h9⟩ := onBytes_ok h8
  obtain ⟨hz, h10⟩ := cap_ok (app_ok h9)
  obtain ⟨l1, q1, g1⟩ := ro₂
  obtain ⟨⟨l2, q2⟩, t, rfl⟩ := V₂
  have hT₂ : s₂.TypeIs (.ref p'.1) "bytearray" := ⟨_, g1, rfl⟩
  have z := sizeLine_ge
  refine wpX_call (codeX_builtin_at (by decide +kernel) (plainId_quiet slot_ba_extend.plain _) entry_ba_extend (slot_ba_extend.check _ _ _ _ _ _ _ _ hT₂ (args_ba_extend _ _) ?_))
  rw [Around.under_plainId slot_ba_extend.plain _]
  refine ba_extend g1 (by rw [bytes_append, bytes_size]; omega) fun h' g' sb => ?_
  rw [bytes_append] at g'
  exact upd_rel H₂ hp' h10 sb (by rw [g']; rfl) ⟨hz, fun x hx => (List.mem_append.mp hx).elim (q1 x) (q2 x), g'⟩ rfl (Co.step (e₂.trans e₁) (x₁.trans x₂)) s₂.toks
end
theorem noDec_caller : NoDec ⟨.builtin "claim.caller" {}, none, none, [], none⟩ := ⟨by decide +kernel, fun x hx => by cases hx⟩
theorem ends_X {prog : Program} {w : World} {t : Sem Fin} {s : Shared} {R : Result → Shared → Prop} (hreg : s.asleep)
    (h : wpX (model prog w) callerA t (fun fin s' => ∃ f, fin = .done f ∧ R (.ok f) s' ∧ AllBare s'.gens) (fun e s' => R (.error e) s' ∧ AllBare s'.gens) s) :
    ∃ n r s' s'', runN (denote table) prog w n s ⟨t, .builtin "claim.caller" {}, default, []⟩ = .halted (outcomeOf r) s' ∧
      schedN (denote table) prog w n (.single s ⟨t, .builtin "claim.caller" {}, default, []⟩) = .halted (outcomeOf r) s' ∧ s'.forget = s''.forget ∧ R r s'' := by
  have k : Sem.wp (model prog w) ⟨.builtin "claim.caller" {}, none, none, [], none⟩ t (Sem.finPost (model prog w) ⟨.builtin "claim.caller" {}, none, none, [], none⟩ fun r s' => R r s' ∧ leftWithCleanup s'.gens = false)
      (fun e _ s' => R (.error e) s' ∧ leftWithCleanup s'.gens = false) default s := by
    refine Sem.wp_mono _ _ t (fun fin p' s' h' => ?_) (fun e _ s' h' => ⟨h'.1, leftWithCleanup_false_of_bare h'.2⟩) default s (h _ default caller_in noDec_caller)
    obtain ⟨f, rfl, hf, hb⟩ := h'
    exact ⟨hf, leftWithCleanup_false_of_bare hb⟩
  obtain ⟨n, r, s₁, s₂, hs, hn, hfo, hR⟩ := wp_halts_full (M := model prog w) (R := R) hreg k
  exact ⟨n, r, s₂, s₁, hn, hs, hfo, hR⟩
noncomputable abbrev tree (name : Str) (vs : List Value) : Sem Fin := do
  match ← nsGet mainNs name with
  | some f => do PySem.ret (← PySem.call f vs)
  | none => unsupported "claim.caller:no-such-global"
theorem law_X {l : OpenLaw} {q : Program} {loose : List Str} {α : Type} {Yf : Shared → α} {Ya : World → α} {N : Nat} {d : DefRec} {kwd : List (Str × Expr)} (k1 : l.row.wellSaid = true) (left : LeftO l.prog q loose (fun _ => true) Yf Ya N) (hw : l.row.toRowW.promised) (hwr : l.writes = false)
    (hdef : defOf q l.name = some (d, kwd)) (hp : l.prog.theDef l.name = some (d.params, d.body, d.scope)) (hk : kwWritten? d.params.kwonlyargs d.params.kw_defaults = some kwd)
    (ok : (chainsOk q && opensWell l.prog && (frees l.row.toRowW && l.row.within.isEmpty)) = true) (hb : l.prog.bare)
    (call : ∀ (w : World) (s₀ s₁ : Shared), s₁.heap.NoLimit → sysModules < s₀.heap.objs.size → Yf s₀ = Ya w → (∀ b o, s₀.heap.get? b = some o → s₁.heap.get? b = some o) → s₁.gens = #[] → ∀ (args : List WData) (vs : List Value) (as : List Addr), l.row.claim.pre args = true → ReadsAllW [] (classAt s₀.heap) s₁.heap vs args as →
      ∀ (mg : Str → Option Value), s₁.heap.Ns mainGlobals mg → ∃ f, mg l.name = some f ∧ wpX (model l.prog w) callerA (PySem.call f vs) (fun v s' => GoodWG l.row.claim (classAt s₀.heap) (ExcName.means s₀.heap) args s₁ (.ok (.ret v)) s')
          (fun e s' => GoodWG l.row.claim (classAt s₀.heap) (ExcName.means s₀.heap) args s₁ (.error e) s') s₁) : l.row.Holds := by
  refine ⟨k1, hw, ?_⟩
  obtain ⟨ok, k5⟩ := Bool.and_eq_true_iff.mp ok
  obtain ⟨hch, o1⟩ := Bool.and_eq_true_iff.mp ok
  obtain ⟨k5, k6⟩ := Bool.and_eq_true_iff.mp k5
  obtain ⟨hsame, hu, ha, hap, hm⟩ := frees_parts k5
  refine ⟨⟨hb, o1, rfl⟩, hw.witness, fun w => ?_⟩
  have B := left.behind (XP := fun _ _ => True) (fun _ _ => trivial) hch w
  refine ⟨B.1, fun s' hs' => ?_⟩
  obtain ⟨s₀, hf, hg0, s, hT, hz, hgens, hg, G, y⟩ := B.2 s' hs'
  have hgens : s.gens = #[] := Array.eq_empty_of_size_eq_zero (beq_iff_eq.mp hgens)
  refine ⟨s₀, hf, hg0, s, hT, fun n hn => ?_, fun x hx => (nomatch hx), fun x hx => (nomatch hx), fun args hpre hlay ord hord => ?_⟩
  · obtain rfl : n = l.name := by
      have : n ∈ (if true = true then [l.name] else []) := hn
      simpa using this
    exact pinned_of_view hg G hdef hp hk
  · obtain ⟨⟨vs, s₁⟩, hlaid⟩ := Option.isSome_iff_exists.mp (layAllW_isSome (P := w.params) (ord := ord) G.has args l.row.args s (pre_splitW hpre).1)
    have keeps := layAllW_keeps _ _ _ hlaid
    have hal := layAllW_rest _ _ _ hlaid
    obtain ⟨as, hrd, hin, hold⟩ := reads_layAllW hord _ _ _ hlaid hlay s₁.heap (fun _ _ e => e)
    have L : Laid [] w s s₁ args vs as := ⟨⟨ord, hord, hlaid⟩, hrd, hin, hold, keeps, hal.1.trans hgens, hal.2.2.1⟩
    have G₁ := G.keeps (fun _ _ _ x _ => x) keeps
    obtain ⟨f, hf, h⟩ := call w s s₁ G₁.T.nolimit G.low y keeps L.gens args vs as hpre hrd _ G₁.T.g
    have hi := ident_freeW hu ha hap
    have hwi : l.row.claim.within = [] := List.isEmpty_iff.mp k6
    have tr : wpX (model l.prog w) callerA (tree l.name vs) (fun fin s' => ∃ f, fin = .done f ∧ (l.row.claim.Ends s args vs s₁ (.ok f) s' ∧ s'.os = s.os) ∧ AllBare s'.gens) (fun e s' => (l.row.claim.Ends s args vs s₁ (.error e) s' ∧ s'.os = s.os) ∧ AllBare s'.gens) s₁ := by
      refine wpX_bindA (wpAny_nsGet G₁.T.g ?_)
      rw [hf]
      refine wpX_bind (wpX_mono h (fun v s' g => ?_) fun e s' g => ?_)
      · have z := g.laid (c := l.row.claim) hsame hwi hi L
        exact wpX_pure ⟨_, rfl, ⟨z.1, z.2.1⟩, z.2.2⟩
      · have z := g.laid (c := l.row.claim) hsame hwi hi L
        exact ⟨⟨z.1, z.2.1⟩, z.2.2⟩
    obtain ⟨k, r, s', s'', hrun, hsched, hfo, hcase, hos⟩ := ends_X (prog := l.prog) (w := w) (R := fun r s' => l.row.claim.Ends s args vs s₁ r s' ∧ s'.os = s.os) (Shared.asleep_of_life hal.2.2.2 hz) tr
    obtain ⟨eh, _, _, eo, _⟩ := Shared.forget_eq hfo
    have hcase := hcase.congr eh
    rw [← eo] at hos
    have hlife : s'.heap.life = s.heap.life := (runN_life _ _ _ hrun).trans hal.2.2.2
    refine ⟨vs, s₁, hlaid, k, _, s', hsched, ?_, fun _ i x hx => by rw [hgens] at hx; simp at hx, fun q => ?_, by rw [hlife], Shared.rest_eq hos⟩
    · rcases hcase with ⟨v, rfl, d1, d2, d3, d4, d5⟩ | ⟨e, ob, cls, rfl, d1, d2, d3, d4, d5⟩
      · exact .inl ⟨v, rfl, d1, d2, d3, fun b o y _ => d4 b o y, d5⟩
      · exact .inr ⟨e, ob, cls, rfl, d1, d2, d3, d4, fun b o y _ => d5 b o y⟩
    · have q : l.writes = true := q
      rw [hwr] at q; cases q
noncomputable def dlaw : DefRec := match defOf q0 theLaw.name with
  | some (d, _) => d
  | none => ⟨theLaw.name, default, [], default, p0⟩
theorem law_def : defOf q0 theLaw.name = some (dlaw, []) := by kernel_rfl
theorem law_hp : theLaw.prog.theDef theLaw.name = some (dlaw.params, dlaw.body, dlaw.scope) := by kernel_rfl
theorem law_hk : kwWritten? dlaw.params.kwonlyargs dlaw.params.kw_defaults = some [] := by kernel_rfl
theorem law_ok : (chainsOk q0 && opensWell theLaw.prog && (frees theLaw.row.toRowW && theLaw.row.within.isEmpty)) = true := by kernel_rfl
theorem law_hb : theLaw.prog.bare := ⟨rfl, rfl, rfl, rfl, rfl, by decide +kernel⟩
theorem law_hw : theLaw.row.toRowW.promised := ⟨[.list []], by decide +kernel, by decide +kernel⟩
noncomputable abbrev tk (X : Cx) : HeapKind X.prog X.w (List Str) := tupleKind (PySem.strKind X.prog X.w)
structure FK (X : Cx) (W : Wd) (h : Heap) (ks : List Str) (a : Addr) : Prop where
  own : ¬ Own W a
  is : IsTupleKey (PySem.strKind X.prog X.w) h ks a
structure FD (X : Cx) (W : Wd) (h : Heap) (d : Addr) (xs : List (List Str × Addr × Value)) : Prop where
  own : ¬ Own W d
  base : X.h₀.get? d = none
  dict : h.DictOfH (tk X) d xs
  keys : ∀ x ∈ xs, ¬ Own W x.2.1
theorem fgn {D : Addr → Prop} {s s' : Shared} {W W' : Wd} (x : Step D s W s' W') {a : Addr} {o : Obj} (g : s.heap.get? a = some o) (nO : ¬ Own W a) (nD : ¬ D a) : ¬ Own W' a ∧ s'.heap.get? a = some o :=
  ⟨fun q => (x.own a q).elim nO fun z => by (rw [g] at z; cases z), x.keep a o g nO nD⟩
theorem key_step {X : Cx} {D : Addr → Prop} {s s' : Shared} {W W' : Wd} (x : Step D s W s' W') {ks : List Str} {a : Addr} (h : FK X W s.heap ks a) (nD : ¬ D a) : FK X W' s'.heap ks a := by
  obtain ⟨o1, o, items, z, g, c, dd, i⟩ := h
  obtain ⟨p, q⟩ := fgn x g o1 nD
  exact ⟨p, o, items, z, q, c, dd, i⟩
theorem FD.stepE {X : Cx} {s s' : Shared} {W W' : Wd} (x : StepE s W s' W') {d : Addr} {xs : List (List Str × Addr × Value)} (h : FD X W s.heap d xs) : FD X W' s'.heap d xs := by
  obtain ⟨o1, b, ⟨o, es, ep, g, ex, dd, he, hk, hn⟩, ky⟩ := h
  obtain ⟨p, q⟩ := fgn x g o1 id
  exact ⟨p, b, ⟨o, es, ep, q, ex, dd, he, fun y hy => (key_step x ⟨ky y hy, hk y hy⟩ id).is, hn⟩, fun y hy => (key_step x ⟨ky y hy, hk y hy⟩ id).own⟩
inductive KVs (X : Cx) (W : Wd) (h : Heap) : List (Value × Value) → List (List Nat × AV) → Prop
  | nil : KVs X W h [] []
  | cons {k : List Nat} {a : Addr} {v : Value} {av : AV} {vs : List (Value × Value)} {es : List (List Nat × AV)} : FK X W h (k.map X.st) a → VR X W av v → KVs X W h vs es → KVs X W h ((.ref a, v) :: vs) ((k, av) :: es)
theorem KVs.set {X : Cx} {h h' : Heap} {W : Wd} {d : Addr} {o : Obj} {ens : Array DictEntry} {ep : Nat} (g : h.get? d = some o) (dd : o.data = .dict ens ep) (sb : Heap.SameBut d h h') : ∀ {vs : List (Value × Value)} {es : List (List Nat × AV)}, KVs X W h vs es → KVs X W h' vs es
  | _, _, .nil => .nil
  | _, _, .cons a b c => .cons ⟨a.own, a.is.keeps g dd sb⟩ b (c.set g dd sb)
noncomputable def XR (X : Cx) (W : Wd) : List (List Str × Addr × Value) → List (List Nat × AV) → Prop := All2 fun x e => x.1 = e.1.map X.st ∧ VR X W e.2 x.2.2
theorem XR.le {X : Cx} {W W' : Wd} (l : W.Le W') {xs : List (List Str × Addr × Value)} {es : List (List Nat × AV)} (h : XR X W xs es) : XR X W' xs es := All2.mono (fun _ _ z => ⟨z.1, z.2.le l⟩) h
theorem All2.app {α β : Type} {R : α → β → Prop} : ∀ {l : List α} {l' : List β} {m : List α} {m' : List β}, All2 R l l' → All2 R m m' → All2 R (l ++ m) (l' ++ m')
  | _, _, _, _, .nil, h => h
  | _, _, _, _, .cons a b, h => .cons a (b.app h)
theorem map_st {X : Cx} : ∀ {a b : List Nat}, a.map X.st = b.map X.st → a = b
  | [], [], _ => rfl
  | [], _ :: _, h => by simp at h
  | _ :: _, [], h => by simp at h
  | x :: a, y :: b, h => by
    simp only [List.map_cons, List.cons.injEq] at h
    rw [X.sti _ _ h.1, map_st h.2]
theorem XR.keys {X : Cx} {W : Wd} : ∀ {xs : List (List Str × Addr × Value)} {es : List (List Nat × AV)}, XR X W xs es → xs.map (·.1) = es.map fun e => e.1.map X.st
  | _, _, .nil => rfl
  | _, _, .cons a b => by rw [List.map_cons, List.map_cons, a.1, XR.keys b]
theorem XR.none {X : Cx} {W : Wd} {xs : List (List Str × Addr × Value)} {es : List (List Nat × AV)} (h : XR X W xs es) {k : List Nat} (hk : k ∉ es.map (·.1)) : atKey xs (k.map X.st) = Option.none := by
  refine atKey_none_of_get fun j p q => hk ?_
  have : k.map X.st ∈ xs.map (·.1) := List.mem_map.mpr ⟨_, List.mem_of_getElem? q, rfl⟩
  rw [h.keys] at this
  obtain ⟨e, he, hq⟩ := List.mem_map.mp this
  exact List.mem_map.mpr ⟨e, he, map_st hq⟩
section
variable {X : Cx} {A : Around} {E : Value → Shared → Prop} {s : Shared} {W : Wd} {d : Addr}
theorem set_ok {xs : List (List Str × Addr × Value)} {es : List (List Nat × AV)} {k : List Nat} {a : Addr} {v : Value} {av : AV} {Q : Unit → Shared → Prop} (hu : A.units < cLine) (D : FD X W s.heap d xs) (hx : XR X W xs es) (hk : k ∉ es.map (·.1)) (K : FK X W s.heap (k.map X.st) a) (V : VR X W av v) (hz : xs.length ≤ 1000)
    (q : ∀ h' t, FD X W h' d (xs ++ [(k.map X.st, a, v)]) → Heap.SameBut d s.heap h' → Q () { s with heap := h', toks := t }) : wpAny (model X.prog X.w) A (dictSet d (.ref a) v) Q E s := by
  refine wpAny_dictSet_heap (knd := tk X) (xs := xs) hu K.is D.dict (fun h' hm sb => ?_) (by have := sizeLine_ge; omega)
  rw [storedH_new (hx.none hk)] at hm
  refine q h' _ ⟨D.own, D.base, hm, fun y hy => ?_⟩ sb
  rcases List.mem_append.mp hy with z | z
  · exact D.keys y z
  · rw [List.mem_singleton.mp z]; exact K.own
theorem storeAll_ok (hu : A.units < cLine) : ∀ {vs : List (Value × Value)} {es es₀ : List (List Nat × AV)} {xs : List (List Str × Addr × Value)} {s : Shared} {Q : PUnit → Shared → Prop}, KVs X W s.heap vs es → FD X W s.heap d xs → XR X W xs es₀ → ((es₀ ++ es).map (·.1)).Nodup → xs.length + es.length ≤ 1000 →
    (∀ h' t xs', FD X W h' d xs' → XR X W xs' (es₀ ++ es) → Heap.SameBut d s.heap h' → Q PUnit.unit { s with heap := h', toks := t }) → wpAny (model X.prog X.w) A (storeAll d vs) Q E s := by
  intro vs
  induction vs with
  | nil =>
    intro es es₀ xs s Q kv D hx hn hz q
    cases kv
    unfold storeAll
    rw [List.forIn_nil]
    exact wpAny_pure (q s.heap s.toks xs D (by rw [List.append_nil]; exact hx) ⟨rfl, fun _ _ => rfl⟩)
  | cons x vs ih =>
    intro es es₀ xs s Q kv D hx hn hz q
    cases kv with
    | @cons k a v av _ es K V kv =>
      rw [List.length_cons] at hz
      unfold storeAll
      rw [List.forIn_cons]
      have hk : k ∉ es₀.map (·.1) := fun hm => by
        rw [List.map_append, List.map_cons, List.nodup_append] at hn
        exact hn.2.2 _ hm _ (.head _) rfl
      obtain ⟨o, ens, ep, g, ex, dd, _⟩ := D.dict
      refine wpAny_bind (wpAny_bind (set_ok hu D hx hk K V (by omega) fun h' t D' sb => wpAny_pure ?_))
      refine ih (s := { s with heap := h', toks := t }) (es₀ := es₀ ++ [(k, av)]) (kv.set g dd sb) D' (hx.app (.cons ⟨rfl, V⟩ .nil)) (by rw [List.append_assoc]; exact hn) (by simp; omega) fun h₂ t₂ xs' D₂ hx₂ sb₂ => ?_
      rw [List.append_assoc] at hx₂
      exact q h₂ t₂ xs' D₂ hx₂ ⟨sb₂.1.trans sb.1, fun b hb => (sb₂.2 b hb).trans (sb.2 b hb)⟩
end
noncomputable def isStrs (l : List Nat) (ws : List AV) (b : Bool) : Bool := Mine.strz ws fun ss => br (leq ss l) b false
theorem leq_refl : ∀ l : List Nat, leq l l = true
  | [] => rfl
  | x :: l => by show br (Nat.beq x x) (leq l l) false = true; rw [Nat.beq_refl]; exact leq_refl l
theorem strs_mk : ∀ (l : List Nat) (k : List Nat → Bool), Mine.strz (l.map AV.str) k = k l
  | [], _ => rfl
  | x :: l, k => strs_mk l fun r => k (x :: r)
theorem isStrs_mk {l : List Nat} {b : Bool} (h : b = true) : isStrs l (l.map AV.str) b = true := by
  unfold isStrs
  rw [strs_mk, leq_refl]; exact h
theorem isStrs_ok {l : List Nat} {ws : List AV} {b : Bool} (h : isStrs l ws b = true) : ws = l.map AV.str ∧ b = true := by
  obtain ⟨ss, rfl, h1⟩ := strs_ok (show Mine.strz ws (fun ss => br (leq ss l) b false) = true from h)
  obtain ⟨h0, h2⟩ := br_false h1
  exact ⟨by rw [leq_iff.mp h0], h2⟩
theorem items_of {X : Cx} {W : Wd} : ∀ {l : List Nat} {vs : List Value}, VRs X W (l.map AV.str) vs → ItemsAre (PySem.strKind X.prog X.w) (l.map X.st) vs
  | [], _, .nil => .nil
  | _ :: _, _, .cons a b => by
    obtain ⟨t, rfl⟩ := a
    exact .cons (by show (X.st _ == X.st _) = true; simp) (items_of b)
inductive PairsR (X : Cx) (n : Nat) (sc : List (Str × NameKind)) : List (Option Expr) → List Expr → List (List Nat × AV) → Prop
  | nil : PairsR X n sc [] [] []
  | cons {e1 e2 v : Expr} {c : Nat} {p : Pos} {ks : List (Option Expr)} {vs : List Expr} {a b x : Nat} {es : List (List Nat × AV)} : SimL X n sc (cons (cst (.str a)) (cons (cst (.str b)) nil)) [e1, e2] → SimE X n sc (cst (.str x)) v → PairsR X n sc ks vs es →
      PairsR X n sc (some (.Tuple [e1, e2] c p) :: ks) (v :: vs) (([a, b], .str x) :: es)
section
variable {X : Cx} {n : Nat} {sc : List (Str × NameKind)}
theorem key_ok {e1 e2 : Expr} {c : Nat} {p : Pos} {a b : Nat} (hs : SimL X n sc (cons (cst (.str a)) (cons (cst (.str b)) nil)) [e1, e2]) {env : Env} {L : Addr} (hE : EnvOk X sc env L) {A : Around} (hA : Room n A) {σ : St} {K : KS} (h : K σ = true) {E : Value → Shared → Prop} {s : Shared} {W : Wd} {Q : Value → Shared → Prop}
    (H : HRel X W σ s) (hL : LRel X W L σ.lo s.heap) (q : ∀ σ' W' s' x, K σ' = true → σ'.lo = σ.lo → StepE s W s' W' → HRel X W' σ' s' → FK X W' s'.heap [X.st a, X.st b] x → s.heap.get? x = none → Q (.ref x) s') : wpAny (model X.prog X.w) A (eval (.Tuple [e1, e2] c p) env) Q E s := by
  refine wpAny_Tuple (hs p env L hE A hA σ (fun ws σ => isStrs [a, b] ws (K σ)) (isStrs_mk (l := [a, b]) h) E s W _ H hL fun ws σ₁ W₁ s₁ vs h₁ l₁ e₁ x₁ H₁ V₁ => ?_)
  obtain ⟨rfl, hk₁⟩ := isStrs_ok (l := [a, b]) (ws := ws) (b := K σ₁) h₁
  have z := sizeLine_ge
  refine ⟨by rw [V₁.length]; simp; omega, ?_⟩
  obtain ⟨H₂, S₂⟩ := H₁.grow (h' := s₁.heap.push { cls := .type "tuple", data := .seq vs.toArray }) (fun b o g => Heap.get?_push_of_some _ g) s₁.toks
  refine q σ₁ W₁ _ _ hk₁ e₁ (x₁.trans S₂) H₂ ⟨(nx_fresh H₁ (fresh_none _)).1, _, vs.toArray, 0, Heap.get?_push_size _ rfl, rfl, rfl, items_of (l := [a, b]) (by simpa using V₁)⟩ ?_
  cases g : s.heap.get? s₁.heap.objs.size with
  | none => rfl
  | some o =>
    have := x₁.stay _ (by rw [g]; rfl)
    rw [fresh_none] at this; cases this
theorem text_ok {e : Expr} {a : Nat} (hm : SimE X n sc (cst (.str a)) e) {env : Env} {L : Addr} (hE : EnvOk X sc env L) {A : Around} (hA : Room n A) {σ : St} {K : KS} (h : K σ = true) {E : Value → Shared → Prop} {s : Shared} {W : Wd} {Q : Value → Shared → Prop}
    (H : HRel X W σ s) (hL : LRel X W L σ.lo s.heap) (q : ∀ σ' W' s' v, K σ' = true → σ'.lo = σ.lo → StepE s W s' W' → HRel X W' σ' s' → VR X W' (.str a) v → Q v s') : wpAny (model X.prog X.w) A (eval e env) Q E s := by
  refine hm env L hE A hA σ (fun u σ => isStrs [a] [u] (K σ)) (isStrs_mk (l := [a]) h) E s W _ H hL fun u σ₁ W₁ s₁ v h₁ e₁ x₁ H₁ V₁ => ?_
  obtain ⟨hu, hk₁⟩ := isStrs_ok (l := [a]) (ws := [u]) (b := K σ₁) h₁
  simp only [List.map_cons, List.map_nil, List.cons.injEq, and_true] at hu
  subst hu
  exact q _ _ _ _ hk₁ e₁ x₁ H₁ V₁
theorem evalPairs_ok {env : Env} {L : Addr} (hE : EnvOk X sc env L) {A : Around} (hA : Room n A) {pos : Pos} {keys : List (Option Expr)} {vals : List Expr} {es : List (List Nat × AV)} (P : PairsR X n sc keys vals es) : ∀ {σ : St} {K : KS}, K σ = true → ∀ {E : Value → Shared → Prop} {s : Shared} {W : Wd} {Q : List (Value × Value) → Shared → Prop},
    HRel X W σ s → LRel X W L σ.lo s.heap → (∀ vs σ' W' s', K σ' = true → σ'.lo = σ.lo → StepE s W s' W' → HRel X W' σ' s' → KVs X W' s'.heap vs es → Q vs s') → wpAny (model X.prog X.w) A (evalPairs (pairTrees keys vals env pos)) Q E s := by
  induction P with
  | nil =>
    intro σ K h E s W Q H hL q
    exact wpAny_pure (q _ _ _ _ h rfl (.refl ..) H .nil)
  | @cons e1 e2 v c p ks vs a b x es hk hv P ih =>
    intro σ K h E s W Q H hL q
    show wpAny _ _ (evalPairs ((eval (.Tuple [e1, e2] c p) env, do let x ← eval v env; standAt pos; pure x) :: pairTrees ks vs env pos)) _ _ _
    unfold evalPairs
    refine wpAny_bind (key_ok hk hE hA h H hL fun σ₁ W₁ s₁ y h₁ e₁ x₁ H₁ K₁ _ => ?_)
    have L₁ := e₁ ▸ hL.stepE x₁
    refine wpAny_bind (wpAny_holding (wpAny_bind (text_ok hv hE hA h₁ H₁ L₁ fun σ₂ W₂ s₂ u h₂ e₂ x₂ H₂ V₂ => wpAny_bind (wpAny_standAt (wpAny_pure ?_)))))
    have L₂ := e₂ ▸ L₁.stepE x₂
    refine wpAny_bind (wpAny_holding (ih h₂ H₂ L₂ fun ws σ₃ W₃ s₃ h₃ e₃ x₃ H₃ kv => wpAny_pure ?_))
    exact q _ _ _ _ h₃ (e₃.trans (e₂.trans e₁)) (x₁.trans (x₂.trans x₃)) H₃ (.cons (key_step (x₂.trans x₃) K₁ id) (V₂.le x₃.le) kv)
theorem at_fresh {s s' : Shared} {W W' : Wd} {d : Addr} (x : StepE s W s' W') (z : s.heap.get? d = none) {h' : Heap} (sb : Heap.SameBut d s'.heap h') (t : Nat) : StepE s W { s' with heap := h', toks := t } W' := by
  have nd : ∀ b, (s.heap.get? b).isSome = true → b ≠ d := fun b hb e => by rw [e, z] at hb; cases hb
  refine ⟨x.le, fun b o g nO nD => (sb.2 b (nd b (by rw [g]; rfl))).trans (x.keep b o g nO nD), x.own, fun b hb => ?_, x.os⟩
  show (h'.get? b).isSome = true
  rw [sb.2 b (nd b hb)]
  exact x.stay b hb
theorem FD.fresh {σ : St} {s : Shared} {W : Wd} (H : HRel X W σ s) : FD X W (s.heap.push { cls := .type "dict", data := .dict #[] }) s.heap.objs.size [] :=
  ⟨(nx_fresh H (fresh_none _)).1, (nx_fresh H (fresh_none _)).2, Heap.DictOfH.new _, fun x hx => by cases hx⟩
theorem FD.rel {σ : St} {s : Shared} {W : Wd} {d : Addr} {xs ys : List (List Str × Addr × Value)} (H : HRel X W σ s) (D : FD X W s.heap d xs) {h' : Heap} (sb : Heap.SameBut d s.heap h') (t : Nat) : HRel X W σ { s with heap := h', toks := t } :=
  H.but (I := d) (fun b o nb g => (sb.2 b nb).trans g) D.own D.base t
theorem sub_short {env : Env} {L : Addr} (hE : EnvOk X sc env L) {A : Around} (hA : Room n A) {pos : Pos} {keys : List (Option Expr)} {vals : List Expr} {es : List (List Nat × AV)} (P : PairsR X n sc keys vals es) (hn : (es.map (·.1)).Nodup) (hl : (pairTrees keys vals env pos).length ≤ 15) (hz : es.length ≤ 100) {σ : St} {K : KS} (h : K σ = true)
    {E : Value → Shared → Prop} {s : Shared} {W : Wd} {Q : Addr → Shared → Prop} (H : HRel X W σ s) (hL : LRel X W L σ.lo s.heap)
    (q : ∀ d σ' W' s' xs, K σ' = true → σ'.lo = σ.lo → StepE s W s' W' → HRel X W' σ' s' → FD X W' s'.heap d xs → XR X W' xs es → s.heap.get? d = none → Q d s') : wpAny (model X.prog X.w) A (subDict (pairTrees keys vals env pos)) Q E s := by
  have hu : A.units < cLine := by have := hA.un; unfold cLine; omega
  obtain ⟨H₁, S₁⟩ := H.grow (h' := s.heap.push { cls := .type "dict", data := .dict #[] }) (fun b o g => Heap.get?_push_of_some _ g) s.toks
  refine wpAny_subDict_any hl (evalPairs_ok hE hA P h H₁ (hL.stepE S₁) fun vs σ₂ W₂ s₂ h₂ e₂ x₂ H₂ kv => ?_)
  have D := (FD.fresh H).stepE (s := { s with heap := s.heap.push { cls := .type "dict", data := .dict #[] } }) x₂
  refine storeAll_ok (es₀ := []) hu kv D .nil (by simpa using hn) (by simp; omega) fun h' t xs' D' hx' sb => ?_
  exact q _ σ₂ W₂ _ xs' h₂ e₂ (at_fresh (S₁.trans x₂) (fresh_none _) sb t) (D.rel (ys := xs') H₂ sb t) D' hx' (fresh_none _)
end
section
variable {X : Cx} {A : Around} {E : Value → Shared → Prop} {s : Shared} {W : Wd} {d : Addr}
theorem put_ok {xs : List (List Str × Addr × Value)} {es : List (List Nat × AV)} {k : List Nat} {a : Addr} {v : Value} {Q : Unit → Shared → Prop} (hu : A.units < cLine) (D : FD X W s.heap d xs) (hx : XR X W xs es) (hk : k ∉ es.map (·.1)) (K : FK X W s.heap (k.map X.st) a) (hz : xs.length ≤ 1000)
    (q : ∀ h', FD X W h' d (xs ++ [(k.map X.st, a, v)]) → Heap.SameBut d s.heap h' → Q () { s with heap := h' }) : wpAny (model X.prog X.w) A (dictPut d ((tk X).hash (k.map X.st)) (.ref a) v) Q E s := by
  obtain ⟨o1, b1, ⟨o, ens, ep, ho, hc, hd, he, his, hn⟩, ky⟩ := D
  have hnot : k.map X.st ∉ xs.map (·.1) := fun hm => by
    rw [hx.keys] at hm
    obtain ⟨e, he', hq⟩ := List.mem_map.mp hm
    exact hk (List.mem_map.mpr ⟨e, he', map_st hq⟩)
  have zl := sizeLine_ge
  unfold dictPut
  refine wpAny_bind (wpAny_dictFind_heap (knd := tk X) hu K.is ho hd he his hn (fun hno => ?_) fun j p hj => ?_)
  · refine wpAny_updateDictKeys (hz := by have e := size_of_entries he; omega) ho hd (q _ ⟨o1, b1, ⟨_, _, ep + 1, Heap.get?_update_self _ ho (Obj.isFreed_of_dict (Obj.data_mapDictKeys hd _)), hc.mapDictKeys _, Obj.data_mapDictKeys hd _, ?_, ?_, ?_⟩, ?_⟩ (Heap.SameBut.update ..))
    · simp [he, entryOfKey]
    · intro x hx
      rcases List.mem_append.mp hx with hx | hx
      · exact (tk X).keeps (his x hx) ho hd (Heap.SameBut.update ..)
      · simp only [List.mem_singleton] at hx
        subst hx
        exact (tk X).keeps K.is ho hd (Heap.SameBut.update ..)
    · rw [List.map_append, List.nodup_append]
      refine ⟨hn, by simp, ?_⟩
      intro x hx y hy
      simp only [List.map_cons, List.map_nil, List.mem_singleton] at hy
      subst hy
      exact fun e => hnot (e ▸ hx)
    · intro y hy
      rcases List.mem_append.mp hy with z | z
      · exact ky y z
      · rw [List.mem_singleton.mp z]; exact K.own
  · exact absurd (List.mem_map.mpr ⟨_, List.mem_of_getElem? hj, rfl⟩) hnot
theorem merge_ok {xs : List (List Str × Addr × Value)} {es : List (List Nat × AV)} {k : List Nat} {a d2 : Addr} {v : Value} {Q : Unit → Shared → Prop} (hu : A.units < cLine) (D : FD X W s.heap d xs) (hx : XR X W xs es) (hk : k ∉ es.map (·.1)) (D2 : FD X W s.heap d2 [(k.map X.st, a, v)]) (hne : d2 ≠ d) (h0 : xs ≠ []) (hz : xs.length ≤ 1000)
    (q : ∀ h', FD X W h' d (xs ++ [(k.map X.st, a, v)]) → Heap.SameBut d s.heap h' → Q () { s with heap := h' }) : wpAny (model X.prog X.w) A (mergeMapping d (.ref d2) false) Q E s := by
  have hT := D2.dict.typeIs
  have hs : (d2 == sysModules) = false := by
    refine beq_eq_false_iff_ne.mpr fun e => ?_
    have := X.sys
    rw [← e, D2.base] at this; cases this
  obtain ⟨o2, ens2, ep2, ho2, hc2, hd2, he2, his2, hn2⟩ := D2.dict
  obtain ⟨o, ens, ep, ho, hc, hd, he, his, hn⟩ := D.dict
  unfold mergeMapping
  refine wpAny_bind (wpAny_isInstance hT F.isi_self_dict ?_)
  rw [if_pos rfl]
  refine wpAny_bind (wpAny_specialOf hT F.slot_dict_iter.lookup ?_)
  refine wpAny_bind (wpAny_pure ?_)
  refine bm_if_false hs ?_
  have e0 : ens.isEmpty = false := by
    have e1 := size_of_entries he
    cases xs with
    | nil => exact absurd rfl h0
    | cons x r => rw [List.length_cons] at e1; show decide (ens.size = 0) = false; rw [e1]; exact decide_eq_false (by omega)
  refine wpAny_bind (wpAny_dictEntries ho hd ?_)
  refine bm_if_false e0 ?_
  refine wpAny_bind (wpAny_dictEntries ho2 hd2 ?_)
  refine wpAny_bind (wpAny_dictEpoch ho2 hd2 ?_)
  have e2 : ens2.size = 1 := size_of_entries he2
  have e3 : ens2[0]? = some ⟨(tk X).hash (k.map X.st), .ref a, v⟩ := by rw [entry_at he2]; rfl
  rw [e2]
  refine wpAny_bind ?_
  show wpAny _ _ (forIn [0] PUnit.unit _) _ _ _
  rw [List.forIn_cons]
  refine wpAny_bind (wpAny_bind (wpAny_dictEntries ho2 hd2 ?_))
  rw [e3]
  dsimp only
  have K : FK X W s.heap (k.map X.st) a := ⟨D2.keys _ (.head _), his2 _ (.head _)⟩
  refine wpAny_bind (wpAny_holding ?_)
  refine bm_if_false rfl ?_
  refine put_ok hu D hx hk K hz fun h' D' sb => ?_
  refine wpAny_bind (wpAny_dictEpoch (s := { s with heap := h' }) ((sb.2 d2 hne).trans ho2) hd2 ?_)
  refine bm_if_false (by simp) (wpAny_pure ?_)
  dsimp only
  rw [List.forIn_nil]
  exact wpAny_pure (wpAny_pure (q h' D' sb))
end
noncomputable def DictE (X : Cx) (n : Nat) (sc : List (Str × NameKind)) (e : Expr) (es : List (List Nat × AV)) : Prop := ∀ (env : Env) (L : Addr), EnvOk X sc env L → ∀ (A : Around), Room n A → ∀ (σ : St) (K : KS), K σ = true → ∀ (E : Value → Shared → Prop) (s : Shared) (W : Wd) (Q : Value → Shared → Prop),
  HRel X W σ s → LRel X W L σ.lo s.heap → (∀ d σ' W' s' xs, K σ' = true → σ'.lo = σ.lo → StepE s W s' W' → HRel X W' σ' s' → FD X W' s'.heap d xs → XR X W' xs es → Q (.ref d) s') → wpAny (model X.prog X.w) A (eval e env) Q E s
noncomputable def DFn (X : Cx) (m : Nat) (a : Addr) (es : List (List Nat × AV)) : Prop := ∀ (A : Around), Room m A → ∀ (σ : St) (K : KS), K σ = true → ∀ (E : Value → Shared → Prop) (s : Shared) (W : Wd) (Q : Value → Shared → Prop),
  HRel X W σ s → (∀ d σ' W' s' xs, K σ' = true → σ'.lo = σ.lo → StepE s W s' W' → HRel X W' σ' s' → FD X W' s'.heap d xs → XR X W' xs es → Q (.ref d) s') → wpAny (model X.prog X.w) A (call (.ref a) []) Q E s
section
variable {X : Cx} {n : Nat} {sc : List (Str × NameKind)}
theorem PairsR.all {keys : List (Option Expr)} {vals : List Expr} {es : List (List Nat × AV)} (P : PairsR X n sc keys vals es) : keys.all (·.isSome) = true ∧ keys.length = vals.length ∧ keys.length = es.length := by
  induction P with
  | nil => exact ⟨rfl, rfl, rfl⟩
  | cons _ _ _ ih => exact ⟨by simp [ih.1], by simp [ih.2.1], by simp [ih.2.2]⟩
theorem DictE.short {keys : List (Option Expr)} {vals : List Expr} {es : List (List Nat × AV)} {pos : Pos} (P : PairsR X n sc keys vals es) (hn : (es.map (·.1)).Nodup) (h0 : es ≠ []) (hl : es.length ≤ 15) : DictE X n sc (.Dict keys vals pos) es := by
  intro env L hE A hA σ K h E s W Q H hL q
  obtain ⟨hall, hl1, hl2⟩ := P.all
  have hlen := pairTrees_length keys vals env pos hall hl1
  have hp0 : pairTrees keys vals env pos ≠ [] := by
    intro he
    rw [he] at hlen
    exact h0 (List.length_eq_zero_iff.mp (by rw [← hl2, ← hlen]; rfl))
  rw [arm_eval_Dict, zip_pairTrees keys vals env pos hall hl1, dictDisplay_pairs _ hp0 (by rw [hlen]; omega)]
  refine wpAny_bind (wpAny_standAt (wpAny_bind (sub_short hE hA P hn (by rw [hlen]; omega) (by omega) h H hL fun d σ' W' s' xs h' e' x' H' D' hx' _ => ?_)))
  exact wpAny_pure (q d σ' W' s' xs h' e' x' H' D' hx')
theorem DFn.mk {e : Expr} {rp : Pos} {es : List (List Nat × AV)} {a : Addr} {o : Obj} {fd : FuncData} (ho : X.F.lookup a = some o) (hd : o.data = .func fd) (hb : fd.body = .stmts [.Return (some e) rp])
    (hcode : codeIn X.F fd.code fd.qualname = true) (hco : fd.scope.isCoroutine = false) (hgen : fd.scope.isGenerator = false) (hk : fd.scope.kind = .function) (hcell : ∀ x ∈ fd.scope.names, x.2 ≠ .cell)
    (hG : fd.globals = X.G) (hB : fd.builtins = X.B) (hbind : ∀ s : Shared, X.F.In s.heap → BindsTo s fd ⟨[], []⟩ []) (hm : DictE X n fd.scope.names e es) : DFn X (n + 1) a es := by
  intro A hA σ K h E s W Q H q
  have hd0 := hA.dep
  have hroom : A.depth < recursionLimit := by unfold recursionLimit; omega
  have hF := X.FIn.keeps H.base
  refine wpAny_call (codeAny_call_def (binds := []) hroom (hF _ _ ho) hd (X.lim.keeps H.base) (codeRec_of hF hcode) hb (hbind s hF) hcell (fun x hx => by cases hx) (fun h₀ hns hk0 => ?_) hco hgen hk)
  obtain ⟨H', S'⟩ := H.grow hk0 (s.toks + ([] : List (Str × Value)).length)
  have hE : EnvOk X fd.scope.names (callEnv fd s.heap.objs.size a) s.heap.objs.size := ⟨hk, rfl, rfl, hG, hB⟩
  have hA' : Room n (A.deeper (callEnv fd s.heap.objs.size a)) := ⟨hA.hand, by show A.depth + 1 + n ≤ 900; omega, by have := hA.un; show A.units + 3 + 200 * n ≤ 9000; omega⟩
  have no := (nx_fresh H (fresh_none s.heap)).1
  have nh := (nx_fresh H (fresh_none s.heap)).2
  refine wpAny_execs_cons (wpAny_Return_some (hm _ _ hE _ hA' ⟨σ.hp, σ.nx, .nil, σ.ms⟩ (fun σ' => K ⟨σ'.hp, σ'.nx, σ.lo, σ'.ms⟩) h _ _ W _ (H'.lo _) ⟨_, hns, zip_rel (ps := []) (as := []) (vs := []) List.nodup_nil .nil, no, nh⟩ fun d σ' W' s' xs h' e' x' H'' D' hx' => ?_))
  exact q d ⟨σ'.hp, σ'.nx, σ.lo, σ'.ms⟩ W' s' xs h' rfl (call_step hk0 (StepE.to x')) (H''.lo _) D' hx'
theorem dtget_ok {W : Wd} : ∀ {xs : List (List Str × Addr × Value)} {es : List (List Nat × AV)}, XR X W xs es → ∀ {k : List Nat} {f : AV → Bool} {g : Unit → Bool}, dtget es k f g = true → (∃ a v, f a = true ∧ VR X W a v ∧ ((atKey xs (k.map X.st)).map (·.2)).getD .none = v) ∨ (g () = true ∧ ((atKey xs (k.map X.st)).map (·.2)).getD .none = .none)
  | _, _, .nil, k, f, g, h => .inr ⟨h, rfl⟩
  | _, _, .cons (a := x) (b := e) (l := xs) (l' := es) r rs, k, f, g, h => by
    have h : br (leq k e.1) (f e.2) (dtget es k f g) = true := h
    rw [br_iff] at h
    obtain ⟨ks, ad, v⟩ := x
    obtain ⟨e1, e2⟩ := e
    obtain ⟨r1, r2⟩ := r
    dsimp only at r1 r2 h
    rcases h with ⟨h1, h2⟩ | ⟨h1, h2⟩
    · refine .inl ⟨e2, v, h2, r2, ?_⟩
      have : ks = k.map X.st := by rw [r1, leq_iff.mp h1]
      simp [atKey, this]
    · have ne : ¬ ks = k.map X.st := fun q => by
        have := map_st (r1.symm.trans q)
        rw [leq_iff.mpr this.symm] at h1; cases h1
      have : atKey ((ks, ad, v) :: xs) (k.map X.st) = atKey xs (k.map X.st) := by simp [atKey, ne]
      rw [this]
      exact dtget_ok rs h2
theorem SimE.tget {es : List (List Nat × AV)} {ms : ML} {a : Addr} {x : Str} {fp cpos apos pos : Pos} {e1 e2 : Expr} {c : Nat} {tp : Pos} {m : Nat} (hg : nsIn X.F X.G x = some (some (.ref a))) (hl : sc.lookup x = some .globalImplicit) (hd : (x == ("__debug__" : Str)) = false) (hk : keepIn X.F (.ref a) = true)
    (he : ∀ (env : Env), eval (.Call (.Attribute (.Call (.Name x fp) [] [] cpos) "get" apos) [.Tuple [e1, e2] c tp] [] pos) env = (do
      let ov ← eval (.Call (.Name x fp) [] [] cpos) env
      standAt apos.atName
      let (f, first) ← holding [ov] (getMethod ov "get" (do return (← importBound (.Call (.Name x fp) [] [] cpos) env).getD true))
      callWith pos f first (backTo pos (starEach [.Tuple [e1, e2] c tp] env)) (backToKw pos (keywordEach [] env))))
    (hf : DFn X m a es) (hmn : m ≤ n) (hn1 : 1 ≤ n) (hs : SimL X n sc ms [e1, e2]) : SimE X n sc (Mine.tget es ms) (.Call (.Attribute (.Call (.Name x fp) [] [] cpos) "get" apos) [.Tuple [e1, e2] c tp] [] pos) := by
  intro env L hE A hA σ k h E s W Q H hL Co
  have hA1 := hA.weak hmn
  refine methodCall_KW ?_ (he env)
  refine wpAny_Call_Name_kw (glob_ok hE hg hl hd H ?_)
  refine callWith_of rfl (keeps_K hk) (evalArgs_of rfl (spliced_nil ⟨X.FIn.keeps H.base, ?_⟩))
  refine hf A hA1 σ (fun σ' => Mine.tget es ms σ' k) h E s W _ H fun d σ₁ W₁ s₁ xs h₁ e₁ x₁ H₁ D₁ X₁ => ?_
  have L₁ := e₁ ▸ hL.stepE x₁
  have hD : ∀ b, Value.ref d = .ref b → ∃ ob, s₁.heap.get? b = some ob ∧ ob.dict = none := fun b e => by
    injection e with e
    subst e
    obtain ⟨o, _, _, ho, hc, _⟩ := D₁.dict
    exact ⟨o, ho, hc.2.1⟩
  refine getMethod_builtin D₁.dict.typeIs F.plainAttrs_dict F.slot_dict_get F.type_dict_get hD ?_
  refine callWith_of (P := fun _ => True) rfl (keeps_v (by intro a q; injection q)) (evalArgs_of rfl ?_)
  show wpAny (model X.prog X.w) A (spliced ((false, eval (.Tuple [e1, e2] c tp) env) :: [])) _ E s₁
  refine spliced_cons (wpAny_Tuple (hs tp env L hE A hA σ₁ _ h₁ E s₁ W₁ _ H₁ L₁ fun ws σ₂ W₂ s₂ vs h₂ l₂ e₂ x₂ H₂ V₂ => ?_))
  obtain ⟨ss, rfl, h3⟩ := strs_ok h₂
  have z := sizeLine_ge
  have l3 : vs.length = 2 := by rw [V₂.length]; exact l₂
  refine ⟨by omega, spliced_nil ⟨trivial, ?_⟩⟩
  obtain ⟨H₃, S₃⟩ := H₂.grow (h' := s₂.heap.push { cls := .type "tuple", data := .seq vs.toArray }) (fun b o g => Heap.get?_push_of_some _ g) s₂.toks
  have D₃ := (D₁.stepE x₂).stepE S₃
  have X₃ := X₁.le x₂.le
  have hkey : IsTupleKey (PySem.strKind X.prog X.w) (s₂.heap.push { cls := .type "tuple", data := .seq vs.toArray }) (ss.map X.st) s₂.heap.objs.size := ⟨_, vs.toArray, 0, Heap.get?_push_size _ rfl, rfl, rfl, items_of (by simpa using V₂)⟩
  have hsys : (d == sysModules) = false := by
    refine beq_eq_false_iff_ne.mpr fun e => ?_
    have := X.sys
    rw [← e, D₁.base] at this; cases this
  have hu : A.units + 1 < cLine := by have := hA.un; unfold cLine; omega
  refine call_meetsIn (rest := [.ref s₂.heap.objs.size]) F.slot_dict_get D₃.dict.typeIs F.entry_dict_get (F.args_dict_get_2 _ _) (meetsH_dict_get (tk X) d _ hsys) ⟨hu, ss.map X.st, xs, hkey, D₃.dict, ?_⟩
  have fin : ∀ r v, k r σ₂ = true → VR X W₂ r v → Q v { s₂ with heap := s₂.heap.push { cls := .type "tuple", data := .seq vs.toArray }, toks := s₂.toks + (tk X).draws (ss.map X.st) } := fun r v hr V =>
    Co r σ₂ W₂ _ v hr (e₂.trans e₁) (x₁.trans (x₂.trans (S₃.trans (Step.toks _)))) (H₃.toks _) V
  rcases dtget_ok X₃ h3 with ⟨r, v, hr, V, e⟩ | ⟨hr, e⟩
  · rw [e]; exact fin r v hr V
  · rw [e]; exact fin .none .none hr rfl
end
noncomputable abbrev SS := Sem Value × Sem Value
theorem len_succ {α : Type} {l : List α} {n : Nat} (h : l.length = n + 1) : ∃ a r, l = a :: r ∧ r.length = n := by
  cases l with
  | nil => cases h
  | cons a r => exact ⟨a, r, rfl, Nat.succ.inj h⟩
set_option maxHeartbeats 2000000 in
theorem disp18' (a1 a2 a3 a4 a5 a6 a7 a8 a9 a10 a11 a12 a13 a14 a15 a16 a17 p : SS) : dictDisplay (([a1, a2, a3, a4, a5, a6, a7, a8, a9, a10, a11, a12, a13, a14, a15, a16, a17] ++ [p]).map fun p => (some p.1, p.2)) =
    (subDict [a1, a2, a3, a4, a5, a6, a7, a8, a9, a10, a11, a12, a13, a14, a15, a16, a17] >>= fun d => holding [.ref d] (subDict [p]) >>= fun sub =>
      (holding [.ref d, .ref sub] (mergeMapping d (.ref sub) false)).onRaise (fun x => do let _ ← holding [.ref d, x] (runValue (.builtin "proto.let_go" {}))) >>= fun _ => pure (.ref d)) := by
  unfold dictDisplay
  dsimp only
  simp
theorem disp18 {l : List SS} (p : SS) (h : l.length = 17) : dictDisplay ((l ++ [p]).map fun p => (some p.1, p.2)) =
    (subDict l >>= fun d => holding [.ref d] (subDict [p]) >>= fun sub =>
      (holding [.ref d, .ref sub] (mergeMapping d (.ref sub) false)).onRaise (fun x => do let _ ← holding [.ref d, x] (runValue (.builtin "proto.let_go" {}))) >>= fun _ => pure (.ref d)) := by
  obtain ⟨a1, r1, rfl, h1⟩ := len_succ h
  obtain ⟨a2, r2, rfl, h2⟩ := len_succ h1
  obtain ⟨a3, r3, rfl, h3⟩ := len_succ h2
  obtain ⟨a4, r4, rfl, h4⟩ := len_succ h3
  obtain ⟨a5, r5, rfl, h5⟩ := len_succ h4
  obtain ⟨a6, r6, rfl, h6⟩ := len_succ h5
  obtain ⟨a7, r7, rfl, h7⟩ := len_succ h6
  obtain ⟨a8, r8, rfl, h8⟩ := len_succ h7
  obtain ⟨a9, r9, rfl, h9⟩ := len_succ h8
  obtain ⟨a10, r10, rfl, h10⟩ := len_succ h9
  obtain ⟨a11, r11, rfl, h11⟩ := len_succ h10
  obtain ⟨a12, r12, rfl, h12⟩ := len_succ h11
  obtain ⟨a13, r13, rfl, h13⟩ := len_succ h12
  obtain ⟨a14, r14, rfl, h14⟩ := len_succ h13
  obtain ⟨a15, r15, rfl, h15⟩ := len_succ h14
  obtain ⟨a16, r16, rfl, h16⟩ := len_succ h15
  obtain ⟨a17, r17, rfl, h17⟩ := len_succ h16
  obtain rfl := List.length_eq_zero_iff.mp h17
  exact disp18' ..
section
variable {X : Cx} {n : Nat} {sc : List (Str × NameKind)}
theorem PairsR.trees {env : Env} {pos : Pos} {ka kb : List (Option Expr)} {va vb : List Expr} {ea : List (List Nat × AV)} (P : PairsR X n sc ka va ea) : pairTrees (ka ++ kb) (va ++ vb) env pos = pairTrees ka va env pos ++ pairTrees kb vb env pos := by
  induction P with
  | nil => rfl
  | cons _ _ _ ih => exact congrArg (List.cons _) ih
theorem PairsR.append {ka kb : List (Option Expr)} {va vb : List Expr} {ea eb : List (List Nat × AV)} (P : PairsR X n sc ka va ea) (Q : PairsR X n sc kb vb eb) : PairsR X n sc (ka ++ kb) (va ++ vb) (ea ++ eb) := by
  induction P with
  | nil => exact Q
  | cons a b _ ih => exact .cons a b ih
theorem set_step {s : Shared} {W : Wd} {d : Addr} {h' : Heap} (x : (h'.get? d).isSome = true) (sb : Heap.SameBut d s.heap h') (t : Nat) : Step (· = d) s W { s with heap := h', toks := t } W :=
  ⟨.refl W, fun b o g _ nd => (sb.2 b nd).trans g, fun _ z => .inl z, fun b hb => by
    by_cases e : b = d
    · rw [e]; exact x
    · show (h'.get? b).isSome = true
      rw [sb.2 b e]; exact hb, rfl⟩
theorem FD.some {W : Wd} {h : Heap} {d : Addr} {xs : List (List Str × Addr × Value)} (D : FD X W h d xs) : (h.get? d).isSome = true := by
  obtain ⟨o, _, _, g, _⟩ := D.dict
  rw [g]; rfl
theorem each_ok {env : Env} {L : Addr} (hE : EnvOk X sc env L) {A : Around} (hA : Room n A) {pos : Pos} {d : Addr} (hdL : L ≠ d) {keys : List (Option Expr)} {vals : List Expr} {es : List (List Nat × AV)} (P : PairsR X n sc keys vals es) : ∀ {σ : St} {K : KS}, K σ = true → ∀ {E : Value → Shared → Prop} {s : Shared} {W : Wd} {Q : PUnit → Shared → Prop} {xs : List (List Str × Addr × Value)} {es₀ : List (List Nat × AV)},
    HRel X W σ s → LRel X W L σ.lo s.heap → FD X W s.heap d xs → XR X W xs es₀ → ((es₀ ++ es).map (·.1)).Nodup → xs.length + es.length ≤ 1000 →
    (∀ σ' W' s' xs', K σ' = true → σ'.lo = σ.lo → Step (· = d) s W s' W' → HRel X W' σ' s' → LRel X W' L σ'.lo s'.heap → FD X W' s'.heap d xs' → XR X W' xs' (es₀ ++ es) → Q PUnit.unit s') →
    wpAny (model X.prog X.w) A (forIn (pairTrees keys vals env pos) PUnit.unit fun (x : Sem Value × Sem Value) (_ : PUnit) => (do let kv ← x.1; let vv ← holding [kv] x.2; holding [kv, vv] (dictSet d kv vv); pure (ForInStep.yield PUnit.unit) : Sem (ForInStep PUnit))) Q E s := by
  have hu : A.units < cLine := by have := hA.un; unfold cLine; omega
  induction P with
  | nil =>
    intro σ K h E s W Q xs es₀ H hL D hx hn hz q
    show wpAny _ _ (forIn [] _ _) _ _ _
    rw [List.forIn_nil]
    exact wpAny_pure (q σ W s xs h rfl (.refl ..) H hL D (by rw [List.append_nil]; exact hx))
  | @cons e1 e2 v c p ks vs a b x es hk hv P ih =>
    intro σ K h E s W Q xs es₀ H hL D hx hn hz q
    rw [List.length_cons] at hz
    show wpAny _ _ (forIn ((eval (.Tuple [e1, e2] c p) env, do let x ← eval v env; standAt pos; pure x) :: pairTrees ks vs env pos) _ _) _ _ _
    rw [List.forIn_cons]
    refine wpAny_bind (wpAny_bind (key_ok (c := c) (p := p) hk hE hA h H hL fun σ₁ W₁ s₁ y h₁ e₁ x₁ H₁ K₁ _ => ?_))
    have L₁ := e₁ ▸ hL.stepE x₁
    refine wpAny_bind (wpAny_holding (wpAny_bind (text_ok hv hE hA h₁ H₁ L₁ fun σ₂ W₂ s₂ u h₂ e₂ x₂ H₂ V₂ => wpAny_bind (wpAny_standAt (wpAny_pure ?_)))))
    have L₂ := e₂ ▸ L₁.stepE x₂
    have D₂ := (D.stepE x₁).stepE x₂
    have X₂ := (hx.le x₁.le).le x₂.le
    have K₂ : FK X W₂ s₂.heap ([a, b].map X.st) y := key_step x₂ K₁ id
    have hk' : [a, b] ∉ es₀.map (·.1) := fun hm => by
      rw [List.map_append, List.map_cons, List.nodup_append] at hn
      exact hn.2.2 _ hm _ (.head _) rfl
    refine wpAny_bind (wpAny_holding (set_ok hu D₂ X₂ hk' K₂ V₂ (by omega) fun h' t D₃ sb => wpAny_pure ?_))
    have H₃ := D₂.rel (ys := xs) H₂ sb t
    have L₃ : LRel X W₂ L σ₂.lo h' := L₂.but (fun b o nb g => (sb.2 b nb).trans g) hdL
    dsimp only
    refine ih h₂ (s := { s₂ with heap := h', toks := t }) (es₀ := es₀ ++ [([a, b], .str x)]) H₃ L₃ D₃ (X₂.app (.cons ⟨rfl, V₂⟩ .nil)) (by rw [List.append_assoc]; exact hn) (by simp; omega) fun σ' W' s' xs' h₄ e₄ x₄ H₄ L₄ D₄ X₄ => ?_
    rw [List.append_assoc] at X₄
    exact q σ' W' s' xs' h₄ (e₄.trans (e₂.trans e₁)) (((StepE.to x₁).trans (StepE.to x₂)).trans ((set_step D₃.some sb t).trans x₄)) H₄ L₄ D₄ X₄
theorem sub_long {env : Env} {L : Addr} (hE : EnvOk X sc env L) {A : Around} (hA : Room n A) {pos : Pos} {keys : List (Option Expr)} {vals : List Expr} {es : List (List Nat × AV)} (P : PairsR X n sc keys vals es) (hn : (es.map (·.1)).Nodup) (hl : ¬ (pairTrees keys vals env pos).length ≤ 15) (hz : es.length ≤ 100) {σ : St} {K : KS} (h : K σ = true)
    {E : Value → Shared → Prop} {s : Shared} {W : Wd} {Q : Addr → Shared → Prop} (H : HRel X W σ s) (hL : LRel X W L σ.lo s.heap)
    (q : ∀ d σ' W' s' xs, K σ' = true → σ'.lo = σ.lo → StepE s W s' W' → HRel X W' σ' s' → LRel X W' L σ'.lo s'.heap → FD X W' s'.heap d xs → XR X W' xs es → s.heap.get? d = none → Q d s') : wpAny (model X.prog X.w) A (subDict (pairTrees keys vals env pos)) Q E s := by
  have k0 : ∀ b o, s.heap.get? b = some o → (s.heap.push { cls := .type "dict", data := .dict #[] }).get? b = some o := fun b o g => Heap.get?_push_of_some _ g
  obtain ⟨H₁, S₁⟩ := H.grow k0 s.toks
  have hdL : L ≠ s.heap.objs.size := fun e => by
    obtain ⟨m, ⟨o, _, _, g, _⟩, _⟩ := hL
    rw [e, fresh_none] at g; cases g
  unfold subDict
  refine wpAny_bind (wpAny_alloc ?_)
  refine wpAny_bind (wpAny_holding ?_)
  rw [if_neg hl]
  refine wpAny_bind (wpAny_rule ?_)
  refine wpAny_bind ?_
  refine each_ok hE hA hdL P h H₁ (hL.stepE S₁) (FD.fresh H) .nil (es₀ := []) (by simpa using hn) (by simp; omega) fun σ' W' s' xs' h' e' x' H' L' D' X' => ?_
  have z := fresh_none s.heap
  exact wpAny_pure (wpAny_pure (q _ σ' W' s' xs' h' e' (Step.since k0 x' rfl (fun b o nd g => g) rfl (fun b hb hs => by subst hb; rw [z] at hs; cases hs) fun b hb hs => by subst hb; rw [z] at hs; cases hs) H' L' D' X' z))
theorem DictE.long {ka : List (Option Expr)} {va : List Expr} {kb : Option Expr} {vb : Expr} {ea : List (List Nat × AV)} {eb : List Nat × AV} {pos : Pos} (Pa : PairsR X n sc ka va ea) (Pb : PairsR X n sc [kb] [vb] [eb]) (hn : ((ea ++ [eb]).map (·.1)).Nodup) (hl : ea.length = 17) : DictE X n sc (.Dict (ka ++ [kb]) (va ++ [vb]) pos) (ea ++ [eb]) := by
  intro env L hE A hA σ K h E s W Q H hL q
  have hu : A.units < cLine := by have := hA.un; unfold cLine; omega
  have P := Pa.append Pb
  obtain ⟨hall, hl1, hl2⟩ := P.all
  obtain ⟨ha1, ha2, ha3⟩ := Pa.all
  obtain ⟨hb1, hb2, hb3⟩ := Pb.all
  have la := pairTrees_length ka va env pos ha1 ha2
  have lb := pairTrees_length [kb] [vb] env pos hb1 hb2
  obtain ⟨p, eqp⟩ : ∃ p, pairTrees [kb] [vb] env pos = [p] := by
    obtain ⟨a, r, e, hr⟩ := len_succ (n := 0) lb
    exact ⟨a, by rw [e, List.length_eq_zero_iff.mp hr]⟩
  rw [arm_eval_Dict, zip_pairTrees _ _ env pos hall hl1, Pa.trees, eqp, disp18 p (by rw [la, ha3, hl])]
  rw [List.map_append, List.nodup_append] at hn
  refine wpAny_bind (wpAny_standAt (wpAny_bind (sub_long hE hA Pa hn.1 (by rw [la]; omega) (by omega) h H hL fun d σ₁ W₁ s₁ xs h₁ e₁ x₁ H₁ L₁ D₁ X₁ z₁ => ?_)))
  refine wpAny_bind (wpAny_holding ?_)
  rw [← eqp]
  refine sub_short hE hA Pb hn.2.1 (by rw [eqp]; simp) (by simp) h₁ H₁ L₁ fun d2 σ₂ W₂ s₂ ys h₂ e₂ x₂ H₂ D2 X2 z2 => ?_
  have D₂ := D₁.stepE x₂
  have hne : d2 ≠ d := fun e => by
    have := D₁.some
    rw [← e, z2] at this; cases this
  obtain ⟨ks, av⟩ := eb
  cases X2 with
  | @cons y _ _ _ r rs =>
  cases rs
  obtain ⟨k2, a2, v2⟩ := y
  obtain ⟨r1, r2⟩ := r
  dsimp only at r1 r2
  subst r1
  have X₂ := X₁.le x₂.le
  have h0 : xs ≠ [] := fun e => by
    have := X₁.length
    rw [e, hl] at this; cases this
  refine wpAny_bind (wpAny_onRaise (wpAny_holding (merge_ok hu D₂ X₂ (fun hm => hn.2.2 _ hm _ (.head _) rfl) D2 hne h0 (by have := X₁.length; omega) fun h' D₃ sb => ?_)))
  refine wpAny_pure ?_
  exact q d σ₂ W₂ _ _ h₂ (e₂.trans e₁) (at_fresh (x₁.trans x₂) z₁ sb s₂.toks) (D₂.rel (ys := xs) H₂ sb s₂.toks) D₃ (X₂.app (.cons ⟨rfl, r2⟩ .nil))
theorem DictE.long2 {keys : List (Option Expr)} {vals : List Expr} {es : List (List Nat × AV)} {pos : Pos} (Pa : PairsR X n sc (keys.take 17) (vals.take 17) (es.take 17)) (Pb : PairsR X n sc (keys.drop 17) (vals.drop 17) (es.drop 17)) (hn : (es.map (·.1)).Nodup) (hl : es.length = 18) : DictE X n sc (.Dict keys vals pos) es := by
  obtain ⟨h1, h2, h3⟩ := Pb.all
  have h4 : (es.drop 17).length = 0 + 1 := by rw [List.length_drop, hl]
  obtain ⟨kb, r1, e1, q1⟩ := len_succ (h3.trans h4)
  obtain ⟨vb, r2, e2, q2⟩ := len_succ (h2.symm.trans (h3.trans h4))
  obtain ⟨eb, r3, e3, q3⟩ := len_succ h4
  rw [List.length_eq_zero_iff.mp q1] at e1
  rw [List.length_eq_zero_iff.mp q2] at e2
  rw [List.length_eq_zero_iff.mp q3] at e3
  rw [e1, e2, e3] at Pb
  have a1 := List.take_append_drop 17 keys
  have a2 := List.take_append_drop 17 vals
  have a3 := List.take_append_drop 17 es
  rw [e1] at a1
  rw [e2] at a2
  rw [e3] at a3
  rw [← a1, ← a2, ← a3]
  exact DictE.long Pa Pb (by rw [a3]; exact hn) (by rw [List.length_take, hl]; rfl)
theorem PairsR.split {keys : List (Option Expr)} {vals : List Expr} {es : List (List Nat × AV)} (P : PairsR X n sc keys vals es) : ∀ j, PairsR X n sc (keys.take j) (vals.take j) (es.take j) ∧ PairsR X n sc (keys.drop j) (vals.drop j) (es.drop j) := by
  induction P with
  | nil => intro j; cases j <;> exact ⟨.nil, .nil⟩
  | cons a b P ih =>
    intro j
    cases j with
    | zero => exact ⟨.nil, .cons a b P⟩
    | succ j => exact ⟨.cons a b (ih j).1, (ih j).2⟩
theorem DictE.long3 {keys : List (Option Expr)} {vals : List Expr} {es : List (List Nat × AV)} {pos : Pos} (P : PairsR X n sc keys vals es) (hn : (es.map (·.1)).Nodup) (hl : es.length = 18) : DictE X n sc (.Dict keys vals pos) es := DictE.long2 (P.split 17).1 (P.split 17).2 hn hl
end
noncomputable def AtE (X : Cx) (env : Env) (P : Wd → FL → Heap → Prop) (A : Around) (m : M) (e : Expr) : Prop := ∀ (σ : St) (k : K), m σ k = true → ∀ (E : Value → Shared → Prop) (s : Shared) (W : Wd) (Q : Value → Shared → Prop), HRel X W σ s → P W σ.lo s.heap → Cont X σ s W k Q → wpAny (model X.prog X.w) A (eval e env) Q E s
section
variable {X : Cx} {env : Env} {P : Wd → FL → Heap → Prop} {A : Around}
theorem AtE.attr {C a : Nat} {m : M} {value : Expr} {x : Str} {pos : Pos} (hC : ClsOk X C) (hx : X.nm a = x) (hf : findIn X.F (.ref (X.cls C)) x = some none) (hb : ∀ (w : Sem Value), attributeBase value x env w = w) (hm : AtE X env P A m value) : AtE X env P A (Mine.attr C m a) (.Attribute value x pos) := by
  intro σ k h E s W Q H hL Co
  refine Attribute_any_ (hm σ _ h E s W _ H hL fun v σ₁ W₁ s₁ va h₁ e₁ x₁ H₁ V₁ => ?_) (by rw [arm_eval_Attribute, hb])
  obtain ⟨i, rfl, h2⟩ := onOwn_ok h₁
  obtain ⟨p, o, hp, rfl, ho, ro, h3⟩ := own_obj H₁ V₁ h2
  obtain ⟨D, fs, rfl, h4⟩ := onInst_ok h3
  obtain ⟨rfl, h5⟩ := beqC h4
  obtain ⟨u, eu, h6⟩ := look_ok h5
  obtain ⟨od, mm, hfr, I, hl⟩ := inst_at ro
  obtain ⟨v, ev, V⟩ := hfr.some eu
  obtain ⟨cd, hc, hd⟩ := hC.cls
  exact get_value (X.FIn.keeps H₁.base) I hC.ga (findObj_value hc hd hf (by rw [hl, ← hx, ev])) V.handed (Co _ _ _ _ _ h6 e₁ (x₁.trans (Step.toks _)) (H₁.toks _) V)
theorem AtE.meth {n C mi : Nat} {f : MF} {a : Addr} {o m : M} {oe e : Expr} {x : Str} {apos pos : Pos} {k₀ : Nat} (hC : ClsOk X C) (hx : X.nm mi = x) (hfi : findIn X.F (.ref (X.cls C)) x = some (some (.ref a))) (ht : typeIn X.F (.ref a) = some (.type "function")) (hk : keepIn X.F (.ref a) = true)
    (hst : starEach [e] env = [(false, eval e env)])
    (he : eval (.Call (.Attribute oe x apos) [e] [] pos) env = (do
      let ov ← eval oe env
      standAt apos.atName
      let (f, first) ← holding [ov] (getMethod ov x (do return (← importBound oe env).getD true))
      callWith pos f first (backTo pos (starEach [e] env)) (backToKw pos (keywordEach [] env))))
    (hP : ∀ {W W' : Wd} {lo : FL} {s s' : Shared}, P W lo s.heap → StepE s W s' W' → P W' lo s'.heap) (hA : Room n A) (hf : FnSim X n f a 2) (ho : AtE X env P A o oe) (hm : AtE X env P A m e) : AtE X env P A (Mine.meth C mi f o (cons m nil)) (.Call (.Attribute oe x apos) [e] [] pos) := by
  intro σ k h E s W Q H hL Co
  refine methodCall_KW (ho σ _ h E s W _ H hL fun v σ₁ W₁ s₁ va h₁ e₁ x₁ H₁ V₁ => ?_) he
  obtain ⟨p, od, rfl, I, hl, h2⟩ := chkM_ok H₁ V₁ h₁
  refine method_fn (od := some od) (X.FIn.keeps H₁.base) I hC.ga hC.gt hfi ht (by show (lookIn x od).map (·.isSome) = some false; rw [← hx, hl]; rfl) ?_
  have hpl : (backTo pos (starEach [e] env)).any (·.1) = false := by rw [hst]; rfl
  refine callWith_of (by rw [hpl]; rfl) (keeps_K hk) (evalArgs_of hpl ?_)
  rw [hst]
  show wpAny (model X.prog X.w) A (spliced ((false, eval e env) :: [])) _ E s₁
  refine spliced_cons (hm σ₁ _ h2 E s₁ W₁ _ H₁ (e₁ ▸ hP hL x₁) fun u σ₂ W₂ s₂ vb h₅ e₂ x₂ H₂ V₂ => spliced_nil ⟨X.FIn.keeps H₂.base, ?_⟩)
  exact hf.call hA (as := [v, u]) (vs := [.ref p.1, vb]) rfl h₅ H₂ (.cons (V₁.le x₂.le) (.cons V₂ .nil)) (Co.step (e₂.trans e₁) (x₁.trans x₂))
end
noncomputable def PC (X : Cx) (i : Nat) (c C : Addr) (a : AV) (W : Wd) (lo : FL) (h : Heap) : Prop := ∃ rest v, lo = .cons i a rest ∧ h.IsCell c (some v) ∧ ¬ Own W c ∧ VR X W a v ∧ LRel X W C rest h
section
variable {X : Cx} {i : Nat} {c C : Addr} {a : AV}
theorem PC.step {D : Addr → Prop} {W W' : Wd} {lo : FL} {s s' : Shared} (h : PC X i c C a W lo s.heap) (x : Step D s W s' W') (dc : ¬ D c) (dC : ¬ D C) : PC X i c C a W' lo s'.heap := by
  obtain ⟨rest, v, e, ⟨o, g, d⟩, nO, V, L⟩ := h
  obtain ⟨p, q⟩ := fgn x g nO dc
  exact ⟨rest, v, e, ⟨o, q, d⟩, p, V.le x.le, L.step x dC⟩
theorem PC.but {I : Addr} {W : Wd} {lo : FL} {h h' : Heap} (p : PC X i c C a W lo h) (k : ∀ b o, b ≠ I → h.get? b = some o → h'.get? b = some o) (nc : c ≠ I) (nC : C ≠ I) : PC X i c C a W lo h' := by
  obtain ⟨rest, v, e, ⟨o, g, d⟩, nO, V, L⟩ := p
  exact ⟨rest, v, e, ⟨o, k _ _ nc g, d⟩, nO, V, L.but k nC⟩
theorem AtE.cell {env : Env} {A : Around} {x : Str} {pos : Pos} (hk : env.scope.kind = .function) (hl : env.kindOf x = some .cell) (hc : env.cells.lookup x = some c) (hd : (x == ("__debug__" : Str)) = false) : AtE X env (PC X i c C a) A (loc i) (.Name x pos) := by
  intro σ k h E s W Q H hP Co
  obtain ⟨rest, v, e, hcl, nO, V, L⟩ := hP
  have h : look σ.lo i (fun v => k v σ) = true := h
  rw [e] at h
  have h : @Bool.rec (fun _ => Bool) (look rest i fun v => k v σ) (k a σ) (Nat.beq i i) = true := h
  rw [Nat.beq_refl] at h
  exact wpAny_Name (wpAny_loadName_cell hk hl hc hcl (Co a σ W s v h rfl (.refl ..) H V)) hd
theorem look_skip {j : Nat} {rest : FL} {f : AV → Bool} (hij : Nat.beq j i = false) (h : look (.cons i a rest) j f = true) : look rest j f = true := by
  have h : @Bool.rec (fun _ => Bool) (look rest j f) (f a) (Nat.beq j i) = true := h
  rw [hij] at h; exact h
theorem AtE.own {n : Nat} {sc : List (Str × NameKind)} {env : Env} {A : Around} {j : Nat} {x : Str} {pos : Pos} (hE : EnvOk X sc env C) (hij : Nat.beq j i = false) (hx : X.nm j = x) (hl : sc.lookup x = some .local) (hd : (x == ("__debug__" : Str)) = false) : AtE X env (PC X i c C a) A (loc j) (.Name x pos) := by
  intro σ k h E s W Q H hP Co
  obtain ⟨rest, v, e, hcl, nO, V, L⟩ := hP
  have h : look σ.lo j (fun v => k v σ) = true := h
  rw [e] at h
  obtain ⟨u, e1, h⟩ := look_ok (look_skip hij h)
  obtain ⟨m, hn, hf, ho⟩ := L
  obtain ⟨b, e2, V2⟩ := hf.some e1
  exact wpAny_Name (wpAny_loadName_local hE.kind (by rw [Env.kindOf, hE.names]; exact hl) (hE.loc ▸ hn) (hx ▸ e2) (Co _ _ _ _ _ h rfl (.refl ..) H V2)) hd
theorem tname_cell {n : Nat} {sc : List (Str × NameKind)} {env : Env} {A : Around} {j : Nat} {x : Str} {pos : Pos} (hE : EnvOk X sc env C) (hij : Nat.beq j i = false) (hx : X.nm j = x) (hl : sc.lookup x = some .local) (hcC : c ≠ C)
    (v : AV) (σ : St) (k : KS) (h : tname j v σ k = true) (E : Value → Shared → Prop) (s : Shared) (W : Wd) (Q : Shared → Prop) (b : Value) (H : HRel X W σ s) (hP : PC X i c C a W σ.lo s.heap) (V : VR X W v b)
    (q : ∀ σ' W' s', k σ' = true → Step (· = C) s W s' W' → HRel X W' σ' s' → PC X i c C a W' σ'.lo s'.heap → Q s') : wpAny (model X.prog X.w) A (assign (.Name x pos) env b) (fun _ => Q) E s := by
  obtain ⟨rest, u, e, ⟨o, g, d⟩, nO, Va, L⟩ := hP
  have h : lset σ.lo j v (fun lo => setLo σ lo k) = true := h
  rw [e] at h
  have h : @Bool.rec (fun _ => Bool) (lset rest j v fun r' => setLo σ (.cons i a r') k) (setLo σ (.cons i v rest) k) (Nat.beq j i) = true := h
  rw [hij] at h
  obtain ⟨hp, nx, lo, ms⟩ := σ
  have h' : tname j v ⟨hp, nx, rest, ms⟩ (fun σ' => k ⟨σ'.hp, σ'.nx, .cons i a σ'.lo, σ'.ms⟩) = true := h
  refine wpAny_assign_Name (store_ok hx hl hE h' (H.lo rest) L V fun σ₂ W₂ s₂ h₂ x₂ H₂ L₂ => ?_)
  obtain ⟨p, q2⟩ := fgn x₂ g nO hcC
  exact q ⟨σ₂.hp, σ₂.nx, .cons i a σ₂.lo, σ₂.ms⟩ W₂ s₂ h₂ x₂ (H₂.lo _) ⟨_, u, rfl, ⟨o, q2, d⟩, p, Va.le x₂.le, L₂⟩
end
section
variable {X : Cx} {n : Nat}
theorem compC_go {sel : SEL} {It : Heap → Addr → Addr × Addr → Nat → Prop} (KI : ItK X sel It) (KSf : Self X It) {t : MT} {m : M} {te ee ie : Expr} {scope : Scope} {pos : Pos} {env : Env} {A : Around} (hA : A.handled = none) {i0 : Nat} {c : Addr} {a : AV} {va : Value} {x0 : Str}
    (hcell : ∀ x ∈ scope.names, x.2 ≠ .cell) (hkind : scope.kind = .function) (hg : env.globals = X.G)
    (ht : ∀ C, c ≠ C → ∀ (v : AV) (σ : St) (k : KS), t v σ k = true → ∀ (E : Value → Shared → Prop) (s : Shared) (W : Wd) (Q : Shared → Prop) (b : Value), HRel X W σ s → PC X i0 c C a W σ.lo s.heap → VR X W v b →
      (∀ σ' W' s', k σ' = true → Step (· = C) s W s' W' → HRel X W' σ' s' → PC X i0 c C a W' σ'.lo s'.heap → Q s') → wpAny (model X.prog X.w) A (assign te { newEnv scope C env.globals [(x0, c)] env.qual none .none (some env) 0 with scope := relabel scope env } b) (fun _ => Q) E s)
    (hm : ∀ C, AtE X { newEnv scope C env.globals [(x0, c)] env.qual none .none (some env) 0 with scope := relabel scope env } (PC X i0 c C a) A m ee) {i : Nat} {p : Addr × Addr} {σ : St} {k : K}
    (hgo : ∀ (I : Addr) (s : Shared) (E : Value → Shared → Prop) (Q : Unit → Shared → Prop) (j : Nat) (v : Value), It s.heap I p j → Q () s → wpAny (model X.prog X.w) A (letOwnedTupleGo te (.ref I) v) Q E s)
    (h : compN sel m t i 100 0 [] ⟨σ.hp, σ.nx, .cons i0 a .nil, σ.ms⟩ (fun vs σ' => setLo σ' σ.lo fun σ' => cap vs (new σ' (.list vs) k)) = true) {E : Value → Shared → Prop} {s : Shared} {W : Wd} {Q : Value → Shared → Prop} (hp : W.ρ[i]? = some p) (H : HRel X W σ s)
    (hc1 : s.heap.IsCell c (some va)) (hc2 : ¬ Own W c) (hc3 : VR X W a va) (Co : Cont X σ s W k Q) {ob : Obj} (hf : ob.isFreed = false) (it : It (s.heap.push ob) s.heap.objs.size p 0) :
    wpAny (model X.prog X.w) A (newList []) (fun acc s₃ => wpAny (model X.prog X.w) A (newFunctionEnv scope env.globals [(x0, c)] [] env.qual none .none (some env)) (fun cenv s₄ =>
        codeAny (model X.prog X.w) A (.compStart (.ListComp ee [⟨te, ie, [], 0⟩] scope pos) 0 (.ref s.heap.objs.size) acc { cenv with scope := relabel scope env })
          (compPost (model X.prog X.w) A E none Q acc cenv.locals) s₄) E s₃) E { s with heap := s.heap.push ob } := by
  refine wpAny_newObj_type (wpAny_newFunctionEnv hcell (by intro y hy; simp at hy) (fun h₁ hns₁ hsb₁ => ?_) hkind)
  dsimp only at hns₁ hsb₁ ⊢
  have s1 : (s.heap.push ob).objs.size = s.heap.objs.size + 1 := Heap.size_push ..
  have hcl : c < s.heap.objs.size := hc1.lt
  generalize hH1 : s.heap.push ob = H1 at hns₁ hsb₁ it s1 ⊢
  have s2 : (H1.push { cls := .type "list", dict := none, data := .seq ([] : List Value).toArray }).objs.size = s.heap.objs.size + 2 := by rw [Heap.size_push, s1]
  generalize hH2 : H1.push { cls := .type "list", dict := none, data := .seq ([] : List Value).toArray } = H2 at hns₁ hsb₁ s2 ⊢
  have up1 : ∀ b o, s.heap.get? b = some o → H1.get? b = some o := fun b o g => hH1 ▸ Heap.get?_push_of_some _ g
  have up2 : ∀ b o, H1.get? b = some o → H2.get? b = some o := fun b o g => hH2 ▸ Heap.get?_push_of_some _ g
  have up3 : ∀ b o, H2.get? b = some o → h₁.get? b = some o := fun b o g => hsb₁.extBut b o (Nat.ne_of_lt (Heap.lt_size g)) (Heap.get?_push_of_some _ g)
  have k0 : ∀ b o, s.heap.get? b = some o → h₁.get? b = some o := fun b o g => up3 _ _ (up2 _ _ (up1 _ _ g))
  have zI := fresh_none s.heap
  have zD : s.heap.get? H1.objs.size = none := none_beyond _ (by rw [s1]; omega)
  have zC : s.heap.get? H2.objs.size = none := none_beyond _ (by rw [s2]; omega)
  have gD : h₁.get? H1.objs.size = some (lstObj [] 0) := up3 _ _ (hH2 ▸ Heap.get?_push_size _ rfl)
  have it₁ : It h₁ s.heap.objs.size p 0 := KI.frame _ _ _ _ _ it fun o g => up3 _ _ (up2 _ _ g)
  have hDI : H1.objs.size ≠ s.heap.objs.size := by rw [s1]; omega
  have hDC : H1.objs.size ≠ H2.objs.size := by rw [s1, s2]; omega
  have hCI : H2.objs.size ≠ s.heap.objs.size := by rw [s2]; omega
  have hcI : c ≠ s.heap.objs.size := Nat.ne_of_lt hcl
  have hcD : c ≠ H1.objs.size := Nat.ne_of_lt (by rw [s1]; exact Nat.lt_succ_of_lt hcl)
  have hcC : c ≠ H2.objs.size := Nat.ne_of_lt (by rw [s2]; exact Nat.lt_succ_of_lt (Nat.lt_succ_of_lt hcl))
  obtain ⟨H', S'⟩ := H.grow k0 (s.toks + ([] : List (Str × Value)).length)
  have P0 : PC X i0 c H2.objs.size a W (.cons i0 a .nil) h₁ := ⟨.nil, va, rfl, hc1.keeps k0, hc2, hc3, _, hns₁, fun x => rfl, (nx_fresh H zC).1, (nx_fresh H zC).2⟩
  refine codeAny_compStart_list ?_ (KSf A _ _ p 0 it₁ _ _ ?_) <;>
  · refine comp_ok KI hA (PC X i0 c H2.objs.size a) (fun s E Q j v => hgo _ s E Q j v) (fun P x => P.step x (by rintro (q | q); exact hcD q; exact hcI q) (by rintro (q | q); exact hDC q.symm; exact hCI q))
      (fun v σ k h E s W Q a H P V C => ht _ hcC v σ k h E s W Q a H P V C) (fun P k => P.but k hcI hCI) (fun σ k h E s W Q H P C => hm _ σ k h E s W Q H P C) h hp it₁ gD (H'.lo _)
      P0 (nx_fresh H zD).1 (nx_fresh H zI).1 (nx_fresh H zD).2 (nx_fresh H zI).2 hDI hDC hCI (s₀ := s) k0 rfl zI zD zC ?_
    intro as vs σ' W' s' z hk x' H'' P' gD' V' nD'
    obtain ⟨rest, v, e, hcl', nO', V'', mm, hn, hfr, nC', C0'⟩ := id P'
    exact ⟨mm, hn, fun h' sb => comp_end hk x' H'' gD' V' nD' nC' (nx_fresh H zD).2 C0' zD zC hDC (fun v σ₂ W₂ s₂ a h₂ e₂ x₂ H₂ V₂ => Co v σ₂ W₂ s₂ a h₂ e₂ x₂ H₂ V₂) h' sb⟩
end
section
variable {X : Cx} {n : Nat}
theorem FnSim.times {C D mi wi i0 j : Nat} {f : MF} {fa : Addr} {mk : M} {ie : Expr} {a : Addr} {o : Obj} {fd : FuncData} {x0 y x1 x2 : Str} {p1 p2 p3 p4 p5 py rpos cpos : Pos} {cscope : Scope}
    (ho : X.F.lookup a = some o) (hd : o.data = .func fd)
    (hb : fd.body = .stmts [.Return (some (.ListComp (.Call (.Attribute (.Attribute (.Name x0 p1) x1 p2) x2 p3) [.Name y p4] [] p5) [⟨.Name y py, ie, [], 0⟩] cscope cpos)) rpos])
    (hcode : codeIn X.F fd.code fd.qualname = true) (hco : fd.scope.isCoroutine = false) (hgen : fd.scope.isGenerator = false) (hk : fd.scope.kind = .function) (hclo : fd.closure = []) (hsc : fd.scope.names = [(x0, .cell)]) (hG : fd.globals = X.G) (hB : fd.builtins = X.B)
    (hx0 : X.nm i0 = x0) (hy : X.nm j = y) (hij : Nat.beq j i0 = false) (hbind : ∀ v, bindArgs fd ⟨[v], []⟩ = pure [(x0, v)])
    (hcs : cscope.kind = .function) (hcell : ∀ x ∈ cscope.names, x.2 ≠ .cell) (hnames : ∀ x ∈ cscope.names, x.2 = .local → cscope.names.lookup x.1 = some .local) (hyl : cscope.names.lookup y = some .local)
    (hclos : ∀ L, closureFor cscope (callEnvC fd L a) = pure [(x0, L + 1)]) (hrel : ∀ L, (relabel cscope (callEnvC fd L a)).names.lookup x0 = some .cell)
    (hd0 : (x0 == ("__debug__" : Str)) = false) (hdy : (y == ("__debug__" : Str)) = false) (hs : ∀ env x, foldedSetIterable ie env x = pure x)
    (hC : ClsOk X C) (hD : ClsOk X D) (hw : X.nm wi = x1) (hwf : findIn X.F (.ref (X.cls D)) x1 = some none) (hwb : ∀ env (w : Sem Value), attributeBase (.Name x0 p1) x1 env w = w)
    (hm : X.nm mi = x2) (hfi : findIn X.F (.ref (X.cls C)) x2 = some (some (.ref fa))) (ht : typeIn X.F (.ref fa) = some (.type "function")) (hkp : keepIn X.F (.ref fa) = true)
    (he : ∀ env, eval (.Call (.Attribute (.Attribute (.Name x0 p1) x1 p2) x2 p3) [.Name y p4] [] p5) env = (do
      let ov ← eval (.Attribute (.Name x0 p1) x1 p2) env
      standAt p3.atName
      let (f, first) ← holding [ov] (getMethod ov x2 (do return (← importBound (.Attribute (.Name x0 p1) x1 p2) env).getD true))
      callWith p5 f first (backTo p5 (starEach [.Name y p4] env)) (backToKw p5 (keywordEach [] env))))
    (hmk : ∀ hp nx lo lo' ms (k : K), mk ⟨hp, nx, lo, ms⟩ k = mk ⟨hp, nx, lo', ms⟩ (fun v σ => k v ⟨σ.hp, σ.nx, lo, σ.ms⟩)) (hi : SimE X n fd.scope.names mk ie) (hf : FnSim X n f fa 2) :
    FnSim X (n + 1) (fn [i0] [] (ret (comp id (Mine.meth C mi f (Mine.attr D (loc i0) wi) (cons (loc j) nil)) (tname j) mk))) a 1 := by
  intro A hA as hN σ k h E s W Q vs H V Co
  cases V with
  | nil => cases hN
  | @cons a0 va as vs V0 V =>
  cases V with
  | cons _ _ => cases hN
  | nil =>
  have hd1 := hA.dep
  have hroom : A.depth < recursionLimit := by unfold recursionLimit; omega
  have hF := X.FIn.keeps H.base
  have hcl : ∀ L, (callEnvC fd L a).cells = [(x0, L + 1)] := fun L => by
    show cellsFrom (L + 1) fd.scope.names [] = _
    rw [hsc]; rfl
  have hkind : ∀ L, (callEnvC fd L a).kindOf x0 = some .cell := fun L => by
    show fd.scope.names.lookup x0 = _
    rw [hsc]; simp
  refine codeAny_call_cells (binds := [(x0, va)]) hroom (hF _ _ ho) hd (X.lim.keeps H.base) (codeRec_of hF hcode) hb (hbind va) hclo (fun x hx => ?_) (fun s₁ ic => ?_) hco hgen hk
  · rw [List.mem_singleton.mp hx]
    refine .inr ⟨by rw [hsc]; simp, ?_⟩
    rw [show cellsFrom (s.heap.objs.size + 1) fd.scope.names [] = [(x0, s.heap.objs.size + 1)] from hcl _]
    simp
  · have hns := ic.toInCall.ns
    have hcellAt := ic.cell x0 (s.heap.objs.size + 1) (by rw [hcl]; simp)
    have k0 := ic.toInCall.keep
    obtain ⟨h₁, tk, rfl⟩ := ic.toInCall.same
    have e1 : bindC (callEnvC fd s.heap.objs.size a).kindOf [(x0, va)] (fun _ => none) x0 = some va := by simp [bindC, hkind]
    have e2 : bindL (callEnvC fd s.heap.objs.size a).kindOf [(x0, va)] (fun _ => none) = fun _ => none := by
      funext z; simp [bindL, hkind]
    rw [e1] at hcellAt
    rw [e2] at hns
    clear ic
    obtain ⟨H', S'⟩ := H.grow k0 tk
    have zL := fresh_none s.heap
    have zc : s.heap.get? (s.heap.objs.size + 1) = none := none_beyond _ (Nat.le_succ _)
    have hE : EnvOk X fd.scope.names (callEnvC fd s.heap.objs.size a) s.heap.objs.size := ⟨hk, rfl, rfl, hG, hB⟩
    have hA' : Room n (A.deeper (callEnvC fd s.heap.objs.size a)) := ⟨hA.hand, by show A.depth + 1 + n ≤ 900; omega, by have := hA.un; show A.units + 3 + 200 * n ≤ 9000; omega⟩
    have h : mk ⟨σ.hp, σ.nx, .cons i0 a0 .nil, σ.ms⟩ (fun v σ₂ => onOwn v fun i => σ₂.hp.get i fun o => onIter o fun sel => setLo σ₂ (id σ₂.lo) fun σ' => compN sel (Mine.meth C mi f (Mine.attr D (loc i0) wi) (cons (loc j) nil)) (tname j) i 100 0 [] σ' fun vs σ' => setLo σ' σ₂.lo fun σ' => cap vs (new σ' (.list vs) (kBack σ.lo k))) = true := h
    rw [hmk _ _ _ .nil] at h
    refine wpAny_execs_cons (wpAny_Return_some ?_)
    rw [eval_ListComp]
    refine wpAny_comprehension_free (use := none) rfl (hs _) (hclos _) hcs hnames ?_
    show wpAny _ _ (eval ie (callEnvC fd s.heap.objs.size a)) _ _ _
    refine hi _ _ hE _ hA' ⟨σ.hp, σ.nx, .nil, σ.ms⟩ _ h _ _ W _ (H'.lo .nil) ⟨_, hns, fun x => rfl, (nx_fresh H zL).1, (nx_fresh H zL).2⟩ fun v σ₁ W₁ s₁ vl h₁' e₁ x₁ H₁ V₁ => ?_
    obtain ⟨i, rfl, h2⟩ := onOwn_ok h₁'
    obtain ⟨p, ob, hp, rfl, ho', ro, h3⟩ := own_obj (σ := ⟨σ₁.hp, σ₁.nx, .cons i0 a0 .nil, σ₁.ms⟩) (H₁.lo _) V₁ h2
    obtain ⟨sel, It, KI, KSf, h4, q⟩ := iter_ok2 (A := A.deeper (callEnvC fd s.heap.objs.size a)) ro h3
    obtain ⟨oc, gc, dc⟩ := hcellAt
    obtain ⟨nc, gc'⟩ := fgn x₁ gc (nx_fresh H zc).1 id
    refine q _ _ fun ob hfr it => ?_
    refine compC_go (X := X) (env := callEnvC fd s.heap.objs.size a) (x0 := x0) (c := s.heap.objs.size + 1) (σ := ⟨σ₁.hp, σ₁.nx, .cons i0 a0 .nil, σ₁.ms⟩) (k := kBack σ.lo k) KI KSf hA'.hand hcell hcs hG (fun C hcC => ?_) (fun C => ?_) (fun I s E Q j v _ q => wpAny_of_eq rfl q) h4 hp (H₁.lo _) ⟨oc, gc', dc⟩ nc ((V0.le S'.le).le x₁.le) (fun v σ₂ W₂ s₂ b h₂ e₂ x₂ H₂ V₂ => ?_) hfr it
    · exact tname_cell (n := n) (sc := (relabel cscope (callEnvC fd s.heap.objs.size a)).names) ⟨hcs, rfl, rfl, hG, hB⟩ hij hy (lookup_relabel_local hyl) hcC
    · refine AtE.meth (n := n) (k₀ := 0) hC hm hfi ht hkp rfl (he _) (fun P x => P.step x id id) hA' hf (AtE.attr hD hw hwf (hwb _) (AtE.cell hcs (hrel _) ?_ hd0)) (AtE.own (n := n) (sc := (relabel cscope (callEnvC fd s.heap.objs.size a)).names) ⟨hcs, rfl, rfl, hG, hB⟩ hij hy (lookup_relabel_local hyl) hdy)
      show List.lookup x0 [(x0, s.heap.objs.size + 1)] = _
      simp
    · exact Co v _ W₂ s₂ b (kBack_ok h₂) rfl (S'.trans (x₁.trans x₂)) (H₂.lo _) V₂
end
section
variable {X : Cx} {n : Nat} {sc : List (Str × NameKind)}
theorem at_fresh' {Dd : Addr → Prop} {s s' : Shared} {W W' : Wd} {d : Addr} (x : Step Dd s W s' W') (z : s.heap.get? d = none) {h' : Heap} (sb : Heap.SameBut d s'.heap h') (t : Nat) : Step Dd s W { s' with heap := h', toks := t } W' := by
  have nd : ∀ b, (s.heap.get? b).isSome = true → b ≠ d := fun b hb e => by rw [e, z] at hb; cases hb
  refine ⟨x.le, fun b o g nO nD => (sb.2 b (nd b (by rw [g]; rfl))).trans (x.keep b o g nO nD), x.own, fun b hb => ?_, x.os⟩
  show (h'.get? b).isSome = true
  rw [sb.2 b (nd b hb)]
  exact x.stay b hb
theorem LRel.add {W : Wd} {L D : Addr} {lo : FL} {h : Heap} (l : LRel X W L lo h) (ne : L ≠ D) : LRel X (W.add (D, D)) L lo h := by
  obtain ⟨m, hn, hf, nO, h0⟩ := l
  refine ⟨m, hn, hf.le (Wd.add_le ..), fun q => ?_, h0⟩
  rcases own_add.mp q with z | z | z
  · exact nO z
  · exact ne z
  · exact ne z
theorem compU_end {W W' : Wd} {σ' : St} {s₀ s' : Shared} {lo : FL} {C D L : Addr} {as : List AV} {vs : List Value} {z i : Nat} {y : Str} {py : Pos} {kn : KS} {env : Env} {A : Around} {E : Value → Shared → Prop} {Q : Shared → Prop} (hE : EnvOk X sc env L) (hy : X.nm i = y) (hyl : sc.lookup y = some .local)
    (h : setLo σ' lo (fun σ' => cap as (new σ' (.list as) (fun v σ => tname i v σ kn))) = true) (x : StepE s₀ W s' W') (H : HRel X W' σ' s') (P : LRel X W' C σ'.lo s'.heap) (hL : LRel X W L lo s₀.heap)
    (gD : s'.heap.get? D = some (lstObj vs z)) (V : VRs X W' as vs) (nD : ¬ Own W' D) (D0 : X.h₀.get? D = none) (zD : s₀.heap.get? D = none) (zC : s₀.heap.get? C = none) (hDC : D ≠ C)
    (Co : ∀ σ₂ W₂ s₂, kn σ₂ = true → Step (· = L) s₀ W s₂ W₂ → HRel X W₂ σ₂ s₂ → LRel X W₂ L σ₂.lo s₂.heap → Q s₂) :
    wpAny (model X.prog X.w) A (assign (.Name y py) env (.ref D)) (fun _ s'' => ∃ m, s''.heap.Ns C m ∧ ∀ h', Heap.SameBut C s''.heap h' → Q { s'' with heap := h' }) E s' := by
  have h1 := setLo_ok h
  obtain ⟨hc, h2⟩ := cap_ok h1
  obtain ⟨hp, e, h3⟩ := new_ok h2
  have hLs : (s₀.heap.get? L).isSome = true := by obtain ⟨m, ⟨o, _, _, g, _⟩, _⟩ := hL; rw [g]; rfl
  have LD : L ≠ D := fun q => by rw [q, zD] at hLs; cases hLs
  have LC : L ≠ C := fun q => by rw [q, zC] at hLs; cases hLs
  have H₂ := (H.lo lo).adopt (D := D) (o := .list as) (hp := hp) gD nD D0 ⟨hc, vs, z, gD, V.le (Wd.add_le ..)⟩ e
  have x₂ : StepE s₀ W s' (W'.add (D, D)) := ⟨x.le.trans (Wd.add_le ..), x.keep, fun b hb => by
    rcases own_add.mp hb with z | z | z
    · exact x.own b z
    · exact .inr (by rw [show b = D from z]; exact zD)
    · exact .inr (by rw [show b = D from z]; exact zD), x.stay, x.os⟩
  have VD : VR X (W'.add (D, D)) (.own σ'.nx) (.ref D) := ⟨(D, D), by
    show (W'.ρ ++ [_])[σ'.nx]? = _
    rw [H.nx, List.getElem?_append_right (Nat.le_refl _), Nat.sub_self]; rfl, rfl⟩
  refine wpAny_assign_Name (store_ok hy hyl hE h3 H₂ ((hL.stepE x).add LD) VD fun σ₂ W₂ s₂ h₂ y₂ H₃ L₃ => ?_)
  have PC := (P.add hDC.symm).step y₂ LC.symm
  obtain ⟨mm, hn, hfr, nC, C0⟩ := id PC
  refine ⟨mm, hn, fun h' sb => ?_⟩
  have k' : ∀ b o, b ≠ C → s₂.heap.get? b = some o → h'.get? b = some o := fun b o q g => sb.extBut b o q g
  exact Co σ₂ W₂ _ h₂ (at_fresh' ((StepE.to x₂).trans y₂) zC sb s₂.toks) (H₃.but k' nC C0 s₂.toks) (L₃.but k' LC)
theorem compU_go {sel : SEL} {It : Heap → Addr → Addr × Addr → Nat → Prop} (KI : ItK X sel It) (KSf : Self X It) {t : MT} {m : M} {te ee ie : Expr} {scope : Scope} {pos : Pos} {env : Env} {L : Addr} (hE : EnvOk X sc env L) {A : Around} (hA : Room n A) {i₁ : Nat} {y : Str} {py : Pos} (hy : X.nm i₁ = y) (hyl : sc.lookup y = some .local)
    (hcell : ∀ x ∈ scope.names, x.2 ≠ .cell) (hkind : scope.kind = .function) (ht : SimG X n scope.names t te) (hm : SimE X n scope.names m ee) {i : Nat} {p : Addr × Addr} {σ : St} {kn : KS}
    (hgo : ∀ (I : Addr) (s : Shared) (E : Value → Shared → Prop) (Q : Unit → Shared → Prop) (j : Nat) (v : Value), It s.heap I p j → Q () s → wpAny (model X.prog X.w) A (letOwnedTupleGo te (.ref I) v) Q E s)
    (h : setLo σ .nil (fun σ' => compN sel m t i 100 0 [] σ' fun vs σ' => setLo σ' σ.lo fun σ' => cap vs (new σ' (.list vs) (fun v σ => tname i₁ v σ kn))) = true) {E : Value → Shared → Prop} {s : Shared} {W : Wd} {Q : Shared → Prop} (hp : W.ρ[i]? = some p) (H : HRel X W σ s) (hL : LRel X W L σ.lo s.heap)
    (Co : ∀ σ₂ W₂ s₂, kn σ₂ = true → Step (· = L) s W s₂ W₂ → HRel X W₂ σ₂ s₂ → LRel X W₂ L σ₂.lo s₂.heap → Q s₂) {ob : Obj} (hf : ob.isFreed = false) (it : It (s.heap.push ob) s.heap.objs.size p 0) :
    wpAny (model X.prog X.w) A (newList []) (fun acc s₃ => wpAny (model X.prog X.w) A (newFunctionEnv scope env.globals [] [] env.qual none .none (some env)) (fun cenv s₄ =>
        codeAny (model X.prog X.w) A (.compStart (.ListComp ee [⟨te, ie, [], 0⟩] scope pos) 0 (.ref s.heap.objs.size) acc { cenv with scope := scope })
          (fun r s' => match r with
            | .ok _ => wpAny (model X.prog X.w) A (assign (.Name y py) env acc) (fun _ s'' => ∃ m, s''.heap.Ns cenv.locals m ∧ ∀ h', Heap.SameBut cenv.locals s''.heap h' → Q { s'' with heap := h' }) E s'
            | .error x => ∃ m, s'.heap.Ns cenv.locals m ∧ ∀ h', Heap.SameBut cenv.locals s'.heap h' → wpAny (model X.prog X.w) A (passOn "comprehension.variables-let-go" x { cenv with scope := scope } : Sem Value) (fun _ => Q) E { s' with heap := h' }) s₄) E s₃) E { s with heap := s.heap.push ob } := by
  refine wpAny_newObj_type (wpAny_newFunctionEnv hcell (by intro y hy; simp at hy) (fun h₁ hns₁ hsb₁ => ?_) hkind)
  dsimp only at hns₁ hsb₁ ⊢
  have s1 : (s.heap.push ob).objs.size = s.heap.objs.size + 1 := Heap.size_push ..
  generalize hH1 : s.heap.push ob = H1 at hns₁ hsb₁ it s1 ⊢
  have s2 : (H1.push { cls := .type "list", dict := none, data := .seq ([] : List Value).toArray }).objs.size = s.heap.objs.size + 2 := by rw [Heap.size_push, s1]
  generalize hH2 : H1.push { cls := .type "list", dict := none, data := .seq ([] : List Value).toArray } = H2 at hns₁ hsb₁ s2 ⊢
  have up1 : ∀ b o, s.heap.get? b = some o → H1.get? b = some o := fun b o g => hH1 ▸ Heap.get?_push_of_some _ g
  have up2 : ∀ b o, H1.get? b = some o → H2.get? b = some o := fun b o g => hH2 ▸ Heap.get?_push_of_some _ g
  have up3 : ∀ b o, H2.get? b = some o → h₁.get? b = some o := fun b o g => hsb₁.extBut b o (Nat.ne_of_lt (Heap.lt_size g)) (Heap.get?_push_of_some _ g)
  have k0 : ∀ b o, s.heap.get? b = some o → h₁.get? b = some o := fun b o g => up3 _ _ (up2 _ _ (up1 _ _ g))
  have zI := fresh_none s.heap
  have zD : s.heap.get? H1.objs.size = none := none_beyond _ (by rw [s1]; omega)
  have zC : s.heap.get? H2.objs.size = none := none_beyond _ (by rw [s2]; omega)
  have gD : h₁.get? H1.objs.size = some (lstObj [] 0) := up3 _ _ (hH2 ▸ Heap.get?_push_size _ rfl)
  have it₁ : It h₁ s.heap.objs.size p 0 := KI.frame _ _ _ _ _ it fun o g => up3 _ _ (up2 _ _ g)
  have hDI : H1.objs.size ≠ s.heap.objs.size := by rw [s1]; omega
  have hDC : H1.objs.size ≠ H2.objs.size := by rw [s1, s2]; omega
  have hCI : H2.objs.size ≠ s.heap.objs.size := by rw [s2]; omega
  obtain ⟨H', S'⟩ := H.grow k0 (s.toks + ([] : List (Str × Value)).length)
  have eC : EnvOk X scope.names { newEnv scope H2.objs.size env.globals [] env.qual none .none (some env) 0 with scope := scope } H2.objs.size := ⟨hkind, rfl, rfl, hE.glob, hE.blt⟩
  refine codeAny_compStart_list ?_ (KSf A _ _ p 0 it₁ _ _ ?_) <;>
  · refine comp_ok KI hA.hand (fun W lo h => LRel X W H2.objs.size lo h) (fun s E Q j v => hgo _ s E Q j v) (fun {W W' lo s s'} P x => P.step x (by rintro (q | q); exact hDC q.symm; exact hCI q))
      (fun v σ k h E s W Q a H P V C => ht _ _ eC A hA v σ k h E s W Q a H P V C) (fun {W lo h h'} P k => P.but k hCI) (fun σ k h E s W Q H P C => hm _ _ eC A hA σ k h E s W Q H P C) (setLo_ok h) hp it₁ gD (H'.lo .nil)
      ⟨_, hns₁, fun x => rfl, (nx_fresh H zC).1, (nx_fresh H zC).2⟩ (nx_fresh H zD).1 (nx_fresh H zI).1 (nx_fresh H zD).2 (nx_fresh H zI).2 hDI hDC hCI (s₀ := s) k0 rfl zI zD zC ?_
    intro as vs σ' W' s' z hk x' H'' P' gD' V' nD'
    exact compU_end hE hy hyl hk x' H'' P' hL gD' V' nD' (nx_fresh H zD).2 zD zC hDC Co
theorem SimS.asgComp {t : MT} {m mi : M} {te ee ie : Expr} {scope : Scope} {pos py spos : Pos} {i₁ : Nat} {y : Str} (hy : X.nm i₁ = y) (hyl : sc.lookup y = some .local) (hsw : ∀ env L, EnvOk X sc env L → swapsWith (.ListComp ee [⟨te, ie, [], 0⟩] scope pos) (some (.Name y py)) spos.line env = pure true)
    (hs : ∀ env x, foldedSetIterable ie env x = pure x) (hfree : ∀ x ∈ scope.names, x.2 ≠ .free) (hcell : ∀ x ∈ scope.names, x.2 ≠ .cell) (hkind : scope.kind = .function)
    (hnames : ∀ x ∈ scope.names, x.2 = .local → scope.names.lookup x.1 = some .local) (hgo : ∀ it v, letOwnedTupleGo te it v = pure ()) (ht : SimG X n scope.names t te) (hm : SimE X n scope.names m ee) (hi : SimE X n sc mi ie) :
    SimS X n sc (Mine.asg (tname i₁) (Mine.comp noLo m t mi)) (.Assign [.Name y py] (.ListComp ee [⟨te, ie, [], 0⟩] scope pos) spos) := by
  intro env L hE A hA σ kn kb kc kr h E s W Q H hL C
  rw [exec_Assign_Name_used _ _ _ _ (hsw env L hE)]
  refine wpAny_bind (wpAny_standAt (wpAny_bind ?_))
  show wpAny _ A (do let _ ← comprehension (.ListComp ee [⟨te, ie, [], 0⟩] scope pos) scope env _ (newList []) false (eval ie env) (some (assign (.Name y py) env))) _ _ s
  refine wpAny_bind (wpAny_mono (wpAny_comprehension_use (Q := fun _ s' => Q .next s') rfl (hs env) hfree hkind hnames ?_) (fun _ s' hq => wpAny_pure (wpAny_pure hq)) fun _ _ e => e)
  refine hi env L hE A hA σ _ h E s W _ H hL fun v σ₁ W₁ s₁ va h₁ e₁ x₁ H₁ V₁ => ?_
  obtain ⟨i, rfl, h2⟩ := onOwn_ok h₁
  obtain ⟨p, o, hp, rfl, ho, ro, h3⟩ := own_obj H₁ V₁ h2
  obtain ⟨sel, It, KI, KSf, h4, q⟩ := iter_ok2 (A := A) ro h3
  refine q _ _ fun ob hf it => ?_
  exact compU_go KI KSf hE hA hy hyl hcell hkind ht hm (fun I s E Q j v _ q => wpAny_of_eq (hgo _ _) q) h4 hp H₁ (hL.lo' x₁ e₁) (fun σ₂ W₂ s₂ h₂ x₂ H₂ L₂ => C.nx _ _ _ h₂ ((StepE.to x₁).trans x₂) H₂ L₂) hf it
theorem swapsC {e ie te : Expr} {scope : Scope} {pos py : Pos} {y : Str} {k : Nat} (hyl : sc.lookup y = some .local) (hl : (py.line == pos.line) = true) (hn : (scope.names.any fun x => x.1 == y && (x.2 == .local || x.2 == .cell)) = false) (env : Env) (L : Addr) (hE : EnvOk X sc env L) :
    swapsWith (.ListComp e [⟨te, ie, [], 0⟩] scope pos) (some (.Name y py)) k env = pure true := by
  have e1 : env.kindOf y = some .local := by rw [Env.kindOf, hE.names]; exact hyl
  have e3 : env.blockKind = .function := by unfold Env.blockKind; rw [hE.kind]; rfl
  show (pure (env.blockKind == .function && env.kindOf y == some .local && py.line == pos.line && !(scope.names.any fun x => x.1 == y && (x.2 == .local || x.2 == .cell))) : Sem Bool) = pure true
  rw [e1, e3, hl, hn]
  rfl
end
section
variable {X : Cx} {sc : List (Str × NameKind)}
theorem swaps_ok2 {a b : Str} {pa pb tp vp : Pos} {k kk : Nat} {vs : List Expr} (ha : sc.lookup a = some .local) (hb : sc.lookup b = some .local) (hne : (b == a) = false) (hl : (pb.line == pa.line) = true) (h2 : vs.length = 2)
    (h3 : (vs.any fun | .Starred .. => true | _ => false) = false) (h4 : vs.all (foldedForSure 8) = false) (h5 : vs.all (constantsAlone 8) = false) (env : Env) (L : Addr) (hE : EnvOk X sc env L) :
    swappedStores [.Tuple [.Name a pa, .Name b pb] k tp] (.Tuple vs kk vp) env = pure (some [a, b]) := by
  have e1 : env.kindOf a = some .local := by rw [Env.kindOf, hE.names]; exact ha
  have e2 : env.kindOf b = some .local := by rw [Env.kindOf, hE.names]; exact hb
  have e3 : env.blockKind = .function := by unfold Env.blockKind; rw [hE.kind]; rfl
  have e4 : (vs.length == 2) = true := by rw [h2]; rfl
  have e5 : (Expr.Name b pb).pos.line == (Expr.Name a pa).pos.line := hl
  have hn : ¬ b = a := by intro q; rw [q] at hne; simp at hne
  have hn' : ¬ a = b := fun q => hn q.symm
  have hl' : pb.line = pa.line := by simpa using hl
  unfold swappedStores
  simp [e1, e2, e3, h2, h4, h5, hl', Expr.pos, List.eraseDups, List.eraseDupsBy, List.eraseDupsBy.loop, hn']
  split
  · rename_i hq
    obtain ⟨x, hx, hq⟩ := hq
    exact absurd hq (List.any_eq_false.mp h3 x hx)
  · rw [hne]
    rfl
end
section
variable {prog : Program} {w : World} {A : Around} {E : Value → Shared → Prop} {s : Shared} {env : Env}
theorem codeX_loop {c : Code} {R : Result → Shared → Prop} (hb : badCode c = false) (hq : c.quiet = true) (I : Nat → Shared → Prop)
    (turn : ∀ n s, I n s → wpX (model prog w) (A.under c) ((model prog w).den c)
      (fun fin s' => match fin with
        | .done f => R (.ok f) s'
        | .again c' => (c' = c ∧ ∃ m, m < n ∧ I m s') ∨ (badCode c' = false ∧ c'.quiet = true ∧ codeX (model prog w) A c' R s')) (fun e s' => R (.error e) s') s)
    (n : Nat) (h : I n s) : codeX (model prog w) A c R s := by
  induction n using Nat.strongRecOn generalizing s with
  | ind n ih =>
    refine codeX_of_tree (wpX_mono (turn n s h) (fun fin s' hf => ?_) fun _ _ h' => h')
    cases fin with
    | done f => exact hf
    | again c' =>
      rcases hf with ⟨rfl, m, hm, hI⟩ | hf
      · exact ⟨hb, hq, ih m hm hI⟩
      · exact hf
theorem codeX_forLoop {R : Result → Shared → Prop} {target : Expr} {it : Value} {body : List Stmt} (I : Nat → Shared → Prop)
    (turn : ∀ n s, I n s → ∀ E : Value → Shared → Prop, wpAny (model prog w) A (pyNext it) (fun r s₁ => match r with
      | none => R (.ok .next) s₁
      | some v => ∀ E' : Value → Shared → Prop, wpAny (model prog w) A (letOwnedTupleGo target it v) (fun _ s₁' =>
          wpAny (model prog w) A (assign target env v) (fun _ s₂ => wpX (model prog w) A (execs body env) (fun f s₃ => match f with
            | .next | .cont => ∃ m, m < n ∧ I m s₃
            | .brk => R (.ok .next) s₃
            | .ret v => R (.ok (.ret v)) s₃) E' s₂) E' s₁') E' s₁) E s)
    (n : Nat) (h : I n s) : codeX (model prog w) A (.forLoop target it body [] env) R s := by
  refine codeX_loop rfl rfl I (fun n s hI => ?_) n h
  show wpX _ A ((forTurn target it body [] env).onRaise (fun x => do noteFrame x env; theTreesLotGoes x)) _ _ s
  refine wpX_onRaise ?_
  simp only [forTurn]
  refine wpX_bind (wpX_standAt (wpX_bind (wpX_onRaise (wpX_any (wpAny_mono (turn n s hI _) (fun r s₁ h₁ => ?_) fun _ _ h' => h')))))
  cases r with
  | none => exact wpX_pure (.inr ⟨rfl, rfl, codeX_any (codeAny_block (wpAny_execs_nil h₁))⟩)
  | some v =>
    refine wpX_bindA (wpAny_mono (h₁ _) (fun _ s₁' h₁' => ?_) fun _ _ h' => h')
    refine wpX_bindA (wpAny_mono h₁' (fun _ s₂ h₂ => wpX_bind (wpX_mono h₂ (fun f s₃ h₃ => ?_) fun _ _ h' => h')) fun _ _ h' => h')
    cases f with
    | next => exact wpX_pure (.inl ⟨rfl, h₃⟩)
    | cont => exact wpX_pure (.inl ⟨rfl, h₃⟩)
    | brk => exact wpX_pure h₃
    | ret v => exact wpX_pure h₃
end
section
variable {X : Cx} {n : Nat} {sc : List (Str × NameKind)}
theorem forX_ok {sel : SEL} {It : Heap → Addr → Addr × Addr → Nat → Prop} (KI : ItK X sel It) {t : MT} {b : MX} {te : Expr} {body : List Stmt} {env : Env} {L : Addr} (hE : EnvOk X sc env L) {A : Around} (hA : Room n A) {i : Nat} {p : Addr × Addr} {σ : St} {kn : KS} {kr : K}
    (h : forN sel t b i 100 0 σ kn kr = true) {s₀ s : Shared} {W : Wd} {I : Addr} {R : Result → Shared → Prop} (hp : W.ρ[i]? = some p) (it : It s.heap I p 0) (H : HRel X W σ s) (hL : LRel X W L σ.lo s.heap)
    (k0 : ∀ b o, s₀.heap.get? b = some o → s.heap.get? b = some o) (os : s.os = s₀.os) (hI : s₀.heap.get? I = none) (hIo : ¬ Own W I) (hIh : X.h₀.get? I = none) (hIL : I ≠ L) (hLs : (s₀.heap.get? L).isSome = true)
    (hgo : ∀ (s : Shared) (E : Value → Shared → Prop) (Q : Unit → Shared → Prop) (j : Nat) (v : Value), It s.heap I p j → Q () s → wpAny (model X.prog X.w) A (letOwnedTupleGo te (.ref I) v) Q E s)
    (ht : SimG X n sc t te) (hb : SimBX X n sc b body)
    (Cn : ∀ σ' W' s', kn σ' = true → Step (· = L) s₀ W s' W' → HRel X W' σ' s' → LRel X W' L σ'.lo s'.heap → R (.ok .next) s')
    (Cr : ∀ v σ' W' s' a, kr v σ' = true → Step (· = L) s₀ W s' W' → HRel X W' σ' s' → VR X W' v a → R (.ok (.ret a)) s') :
    codeX (model X.prog X.w) A (.forLoop te (.ref I) body [] env) R s := by
  refine codeX_forLoop (fun m s' => ∃ j σ' W', forN sel t b i m j σ' kn kr = true ∧ Step (fun b => b = L ∨ b = I) s W s' W' ∧ HRel X W' σ' s' ∧ LRel X W' L σ'.lo s'.heap ∧ It s'.heap I p j) ?_ 100 ⟨0, σ, W, h, .refl .., H, hL, it⟩
  rintro m s' ⟨j, σ', W', hm, x', H', L', it'⟩ E₀
  cases m with
  | zero => cases hm
  | succ m =>
    have hm : σ'.hp.get i (fun o => sel j o (fun _ => kn σ') fun x => t x σ' fun σ => b σ (fun σ => forceN (Nat.succ j) fun j => forN sel t b i m j σ kn kr) kn (fun σ => forceN (Nat.succ j) fun j => forN sel t b i m j σ kn kr) kr) = true := hm
    obtain ⟨o, ho, h1⟩ := T.get_ok hm
    have hp' := x'.le.ρ i p hp
    obtain ⟨o', ho', ro⟩ := H'.obj i p hp'
    rw [ho] at ho'; cases ho'
    have hIo' : ¬ Own W' I := fun q => by
      rcases x'.own I q with z | z
      · exact hIo z
      · have := KI.ex _ _ _ _ it; rw [z] at this; cases this
    have fin : ∀ {s'' : Shared} {W'' : Wd}, Step (fun b => b = L ∨ b = I) s W s'' W'' → ∀ {h' : Heap} {tk : Nat}, (∀ b o, b ≠ I → s''.heap.get? b = some o → h'.get? b = some o) → Step (· = L) s₀ W { s'' with heap := h', toks := tk } W'' := by
      intro s'' W'' x h' tk kk
      refine x.since k0 os (fun b o nd g => kk b o (fun q => nd (.inr q)) g) rfl (fun b hb hs => ?_) fun b hb hs => ?_
      · rcases hb with rfl | rfl
        · rfl
        · rw [hI] at hs; cases hs
      · rcases hb with rfl | rfl
        · obtain ⟨o, g⟩ := Option.isSome_iff_exists.mp (x.stay _ (by obtain ⟨o, g⟩ := Option.isSome_iff_exists.mp hLs; rw [k0 _ _ g]; rfl))
          show (h'.get? b).isSome = true
          rw [kk _ _ (Ne.symm hIL) g]; rfl
        · rw [hI] at hs; cases hs
    rcases KI.step A s' W' p o j _ _ I hA.hand ro it' h1 with ⟨h2, q⟩ | ⟨a, v, V, h2, q⟩
    · refine q _ _ fun h' k' => ?_
      exact Cn _ W' _ h2 (fin x' (h' := h') (tk := s'.toks) fun b o nb g => k' b o nb g) (H'.but (fun b o nb g => k' b o nb g) hIo' hIh s'.toks) (L'.but (fun b o nb g => k' b o nb g) (Ne.symm hIL))
    · refine q _ _ fun h' tk i' k' => ?_
      have H₁ : HRel X W' σ' { s' with heap := h', toks := tk } := H'.but (fun b o nb g => k'.extBut b o nb g) hIo' hIh tk
      have L₁ : LRel X W' L σ'.lo h' := L'.but (fun b o nb g => k'.extBut b o nb g) (Ne.symm hIL)
      have x₁ : Step (fun b => b = L ∨ b = I) s W { s' with heap := h', toks := tk } W' := x'.trans ⟨.refl _, fun b o g _ nd => k'.extBut b o (fun q => nd (.inr q)) g, fun _ z => .inl z, fun b hb => by
        by_cases q : b = I
        · subst q; exact KI.ex _ _ _ _ i'
        · obtain ⟨o, g⟩ := Option.isSome_iff_exists.mp hb
          show (h'.get? b).isSome = true
          rw [k'.extBut b o q g]; rfl, rfl⟩
      intro E₁
      refine hgo _ _ _ (j + 1) v i' ?_
      refine ht env L hE A hA a σ' _ h2 _ _ W' _ v H₁ L₁ V fun σ₂ W₂ s₂ h₃ x₂ H₂ L₂ => ?_
      have keepI : ∀ {s₁ s₂ : Shared} {W₁ W₂ : Wd}, Step (· = L) s₁ W₁ s₂ W₂ → ¬ Own W₁ I → ∀ o, s₁.heap.get? I = some o → s₂.heap.get? I = some o := fun x n o g => x.keep I o g n hIL
      have wk : ∀ {s₁ s₂ : Shared} {W₁ W₂ : Wd}, Step (· = L) s₁ W₁ s₂ W₂ → Step (fun b => b = L ∨ b = I) s₁ W₁ s₂ W₂ := fun x => x.weak fun b => .inl
      have hIo₂ : ¬ Own W₂ I := fun q => by
        rcases x₂.own I q with z | z
        · exact hIo' z
        · have := KI.ex _ _ _ _ i'; rw [show h'.get? I = none from z] at this; cases this
      have it₂ : It s₂.heap I p (j + 1) := KI.frame _ _ _ _ _ i' (keepI x₂ hIo')
      refine hb env L hE A hA σ₂ _ _ _ _ h₃ _ s₂ W₂ _ H₂ L₂ ⟨fun σ₃ W₃ s₃ h₄ x₃ H₃ L₃ => ?_, fun σ₃ W₃ s₃ h₄ x₃ H₃ L₃ => ?_, fun σ₃ W₃ s₃ h₄ x₃ H₃ L₃ => ?_, fun v σ₃ W₃ s₃ a h₄ x₃ H₃ V₃ => ?_⟩
      · exact ⟨m, Nat.lt_succ_self m, j + 1, σ₃, W₃, forceN_ok h₄, (x₁.trans (wk x₂)).trans (wk x₃), H₃, L₃, KI.frame _ _ _ _ _ it₂ (keepI x₃ hIo₂)⟩
      · exact Cn _ _ _ h₄ (fin ((x₁.trans (wk x₂)).trans (wk x₃)) (h' := s₃.heap) (tk := s₃.toks) fun _ _ _ g => g) H₃ L₃
      · exact ⟨m, Nat.lt_succ_self m, j + 1, σ₃, W₃, forceN_ok h₄, (x₁.trans (wk x₂)).trans (wk x₃), H₃, L₃, KI.frame _ _ _ _ _ it₂ (keepI x₃ hIo₂)⟩
      · exact Cr _ _ _ _ _ h₄ (fin ((x₁.trans (wk x₂)).trans (wk x₃)) (h' := s₃.heap) (tk := s₃.toks) fun _ _ _ g => g) H₃ V₃
theorem forBodyX {t : MT} {b : MX} {te : Expr} {body : List Stmt} {env : Env} {L : Addr} (hE : EnvOk X sc env L) {A : Around} (hA : Room n A) {i : Nat} {p : Addr × Addr} {σ : St} {kn kb kc : KS} {kr : K} {sel : SEL} {It : Heap → Addr → Addr × Addr → Nat → Prop} (KI : ItK X sel It)
    (h : forN sel t b i 100 0 σ kn kr = true) {s : Shared} {W : Wd} {E : Value → Shared → Prop} {Q : Flow → Shared → Prop} (hp : W.ρ[i]? = some p) (H : HRel X W σ s) (hL : LRel X W L σ.lo s.heap)
    (hgo : ∀ (I : Addr) (s : Shared) (E : Value → Shared → Prop) (Q : Unit → Shared → Prop) (j : Nat) (v : Value), It s.heap I p j → Q () s → wpAny (model X.prog X.w) A (letOwnedTupleGo te (.ref I) v) Q E s)
    (ht : SimG X n sc t te) (hb : SimBX X n sc b body) (C : ContS X L s W kn kb kc kr Q) {ob : Obj} (hf : ob.isFreed = false) (it : It (s.heap.push ob) s.heap.objs.size p 0) :
    codeX (model X.prog X.w) A (.forLoop te (.ref s.heap.objs.size) body [] env) (fun r s' => match r with | .ok f => Q f s' | .error e => E e s') { s with heap := s.heap.push ob } := by
  have k0 : ∀ b o, s.heap.get? b = some o → (s.heap.push ob).get? b = some o := fun b o g => Heap.get?_push_of_some _ g
  obtain ⟨H', S'⟩ := H.grow k0 s.toks
  have no : ¬ Own W s.heap.objs.size := fun q => by have := H.ex _ q; rw [fresh_none] at this; cases this
  have nh : X.h₀.get? s.heap.objs.size = none := by
    cases q : X.h₀.get? s.heap.objs.size with
    | none => rfl
    | some o => have := H.base _ _ q; rw [fresh_none] at this; cases this
  have hLs : (s.heap.get? L).isSome = true := by obtain ⟨m, ⟨o, _, _, g, _⟩, _⟩ := hL; rw [g]; rfl
  have ne : s.heap.objs.size ≠ L := fun q => by rw [← q, fresh_none] at hLs; cases hLs
  exact forX_ok KI hE hA h (s₀ := s) hp it H' (hL.stepE S') k0 rfl (fresh_none _) no nh ne hLs (hgo _) ht hb (fun σ' W' s' h' x' H' L' => C.nx _ _ _ h' x' H' L') fun v σ' W' s' a h' x' H' V' => C.re _ _ _ _ _ h' x' H' V'
theorem x_For {prog : Program} {w : World} {A : Around} {E : Value → Shared → Prop} {s : Shared} {env : Env} {target iter : Expr} {body : List Stmt} {pos : Pos} {Q : Flow → Shared → Prop}
    (h : wpAny (model prog w) A (eval iter env) (fun x s₁ => wpAny (model prog w) A (pyIter x) (fun it s₂ => ∀ E' : Value → Shared → Prop,
      codeX (model prog w) A (.forLoop target it body [] env) (fun r s' => match r with | .ok f => Q f s' | .error e => E' e s') s₂) E s₁) E s)
    (hs : ∀ x, foldedSetIterable iter env x = pure x) : wpX (model prog w) A (exec (.For target iter body [] pos) env) Q E s := by
  rw [exec_For]
  refine wpX_bind (wpX_standAt (wpX_bindA (wpAny_mono h (fun x s₁ h₁ => ?_) fun _ _ h' => h')))
  rw [hs x]
  refine wpX_bind (wpX_pure (wpX_bind (wpX_standAt (wpX_bindA (wpAny_holding (wpAny_mono h₁ (fun it s₂ h₂ => ?_) fun _ _ h' => h'))))))
  unfold runOwn
  refine wpX_onRaise (wpX_run rfl ?_)
  exact h₂ _
theorem SimSX.for_ {t : MT} {m : M} {b : MX} {te ie : Expr} {body : List Stmt} {pos : Pos} (hs : ∀ env x, foldedSetIterable ie env x = pure x) (hgo : ∀ it v, letOwnedTupleGo te it v = pure ()) (ht : SimG X n sc t te) (hm : SimE X n sc m ie) (hb : SimBX X n sc b body) :
    SimSX X n sc (Mine.for_ t m b) (.For te ie body [] pos) := by
  intro env L hE A hA σ kn kb kc kr h E s W Q H hL C
  refine x_For (hm env L hE A hA σ _ h E s W _ H hL fun v σ₁ W₁ s₁ va h₁ e₁ x₁ H₁ V₁ => ?_) (hs env)
  obtain ⟨i, rfl, h2⟩ := onOwn_ok h₁
  obtain ⟨p, o, hp, rfl, ho, ro, h3⟩ := own_obj H₁ V₁ h2
  obtain ⟨sel, It, KI, h4, q⟩ := iter_ok (A := A) ro h3
  refine q _ _ fun ob hf it E' => ?_
  exact forBodyX hE hA KI h4 hp H₁ (hL.lo' x₁ e₁) (fun I s E Q j v _ q => wpAny_of_eq (hgo _ _) q) ht hb (C.step (StepE.to x₁)) hf it
end
end Mine
end
section
namespace Mine
noncomputable def f_Sender_window : MF := fn [1] [] (ret (attr 4 (attr 2 (loc 1) 3) 5))
noncomputable def f_Limits___init__ : MF := fn [1, 7, 9, 10, 11, 12, 13, 14, 15, 16, 17] [] (sq (asg (tattr 8 (loc 1) 7) (loc 7)) (sq (asg (tattr 8 (loc 1) 9) (loc 9)) (sq (asg (tattr 8 (loc 1) 10) (loc 10)) (sq (asg (tattr 8 (loc 1) 11) (loc 11)) (sq (asg (tattr 8 (loc 1) 12) (loc 12)) (sq (asg (tattr 8 (loc 1) 13) (loc 13)) (sq (asg (tattr 8 (loc 1) 14) (loc 14)) (sq (asg (tattr 8 (loc 1) 15) (loc 15)) (sq (asg (tattr 8 (loc 1) 16) (loc 16)) (asg (tattr 8 (loc 1) 17) (loc 17)))))))))))
noncomputable def f_PeerWindow___init__ : MF := fn [1, 7] [] (sq (asg (tattr 4 (loc 1) 7) (loc 7)) (sq (asg (tattr 4 (loc 1) 5) (cst (.int 0))) (sq (asg (tattr 4 (loc 1) 27) (cst (.int 0))) (sq (asg (tattr 4 (loc 1) 28) (cst .none)) (asg (tattr 4 (loc 1) 29) (cst (.int 0)))))))
noncomputable def f_SendQueue___init__ : MF := fn [1, 30] [] (sq (ite (rel (irel ltb) (loc 30) (cst (.int 1))) bad done) (sq (asg (tattr 31 (loc 1) 30) (loc 30)) (asg (tattr 31 (loc 1) 32) (cst (.bytes [])))))
noncomputable def f_Sender___init__ : MF := fn [1, 23, 7, 9, 30] [] (sq (asg (tattr 2 (loc 1) 23) (loc 23)) (sq (asg (tattr 2 (loc 1) 7) (loc 7)) (sq (asg (tattr 2 (loc 1) 9) (loc 9)) (sq (asg (tattr 2 (loc 1) 24) (loc 23)) (sq (asg (tattr 2 (loc 1) 25) (loc 23)) (sq (asg (tattr 2 (loc 1) 26) (loc 23)) (sq (asg (tattr 2 (loc 1) 3) (callC 4 f_PeerWindow___init__ (cons (loc 7) nil))) (sq (asg (tattr 2 (loc 1) 33) (callC 31 f_SendQueue___init__ (cons (loc 30) nil))) (sq (asg (tattr 2 (loc 1) 34) (cst .tt)) (sq (asg (tattr 2 (loc 1) 35) (cst .ff)) (asg (tattr 2 (loc 1) 36) (cst .ff))))))))))))
noncomputable def f_RttEstimate___init__ : MF := fn [1, 39, 41, 27] [] (sq (asg (tattr 40 (loc 1) 39) (loc 39)) (sq (asg (tattr 40 (loc 1) 41) (loc 41)) (sq (asg (tattr 40 (loc 1) 27) (loc 27)) (sq (asg (tattr 40 (loc 1) 42) (cst (.int 0))) (sq (asg (tattr 40 (loc 1) 43) (cst (.int 0))) (asg (tattr 40 (loc 1) 44) (cst (.int 0))))))))
noncomputable def f_RetransmitClock___init__ : MF := fn [1, 45, 15] [] (sq (asg (tattr 46 (loc 1) 45) (loc 45)) (sq (asg (tattr 46 (loc 1) 15) (loc 15)) (sq (asg (tattr 46 (loc 1) 6) (cst (.int 0))) (sq (asg (tattr 46 (loc 1) 47) (cst .none)) (asg (tattr 46 (loc 1) 48) (cst (.int 0)))))))
noncomputable def f_clock_of : MF := fn [18] [] (sq (asg (tname 45) (callC 40 f_RttEstimate___init__ (cons (attr 8 (loc 18) 12) (cons (attr 8 (loc 18) 13) (cons (attr 8 (loc 18) 14) nil))))) (ret (callC 46 f_RetransmitClock___init__ (cons (loc 45) (cons (attr 8 (loc 18) 15) nil)))))
noncomputable def f_Congestion___init__ : MF := fn [1, 9, 39, 27] [] (sq (asg (tattr 50 (loc 1) 9) (loc 9)) (sq (asg (tattr 50 (loc 1) 27) (loc 27)) (sq (asg (tattr 50 (loc 1) 5) (loc 39)) (sq (asg (tattr 50 (loc 1) 51) (loc 27)) (sq (asg (tattr 50 (loc 1) 52) (cst (.int 0))) (sq (asg (tattr 50 (loc 1) 53) (cst (.int 0))) (sq (asg (tattr 50 (loc 1) 54) (cst .ff)) (asg (tattr 50 (loc 1) 55) (cst .ff)))))))))
noncomputable def f_AckPolicy___init__ : MF := fn [1, 57] [] (sq (asg (tattr 58 (loc 1) 57) (loc 57)) (sq (asg (tattr 58 (loc 1) 59) (cst (.int 0))) (sq (asg (tattr 58 (loc 1) 60) (cst .none)) (asg (tattr 58 (loc 1) 61) (cst .ff)))))
noncomputable def f_Wheel___init__ : MF := fn [1, 5] [(.int 16)] (sq (asg (tattr 63 (loc 1) 5) (loc 5)) (sq (asg (tattr 63 (loc 1) 65) (comp noLo (mkList nil) (tname 64) (callB b_range (cons (loc 5) nil)))) (sq (asg (tattr 63 (loc 1) 66) (mkList nil)) (sq (asg (tattr 63 (loc 1) 67) dict0) (sq (asg (tattr 63 (loc 1) 68) (cst .none)) (asg (tattr 63 (loc 1) 69) (cst (.int 0))))))))
noncomputable def f_Tcb___init__ : MF := fn [1, 18, 20, 21, 23] [] (sq (asg (tattr 19 (loc 1) 18) (loc 18)) (sq (asg (tattr 19 (loc 1) 20) (loc 20)) (sq (asg (tattr 19 (loc 1) 21) (loc 21)) (sq (asg (tattr 19 (loc 1) 22) (cst (.str 1))) (sq (asg (tattr 19 (loc 1) 37) (callC 2 f_Sender___init__ (cons (loc 23) (cons (attr 8 (loc 18) 7) (cons (attr 8 (loc 18) 9) (cons (attr 8 (loc 18) 10) nil)))))) (sq (asg (tattr 19 (loc 1) 38) (cst .none)) (sq (asg (tattr 19 (loc 1) 49) (callF f_clock_of (cons (loc 18) nil))) (sq (asg (tattr 19 (loc 1) 56) (callC 50 f_Congestion___init__ (cons (attr 8 (loc 18) 9) (cons (bin mulV (cst (.int 2)) (attr 8 (loc 18) 9)) (cons (bin addV (attr 8 (loc 18) 10) (attr 8 (loc 18) 9)) nil))))) (sq (asg (tattr 19 (loc 1) 62) (callC 58 f_AckPolicy___init__ (cons (attr 8 (loc 18) 16) nil))) (sq (asg (tattr 19 (loc 1) 70) (callC 63 f_Wheel___init__ nil)) (sq (asg (tattr 19 (loc 1) 71) (cst .none)) (sq (asg (tattr 19 (loc 1) 72) (cst (.int 0))) (sq (asg (tattr 19 (loc 1) 73) (cst (.int 0))) (asg (tattr 19 (loc 1) 74) (cst .tt)))))))))))))))
noncomputable def f_follow : MF := fn [22, 76] [] (sq (ite (rel eqV (loc 76) (cst (.str 21))) (ret (ifx (rel eqV (loc 22) (cst (.str 3))) (cst (.str 3)) (ifx (rel eqV (loc 22) (cst (.str 1))) (cst .none) (cst (.str 1))))) done) (sq (ite (rel eqV (loc 76) (cst (.str 22))) (ret (ifx (rel eqV (loc 22) (cst (.str 1))) (cst .none) (cst (.str 1)))) done) (sq (ite (rel eqV (loc 76) (cst (.str 23))) (ret (ifx (rel inV (loc 22) (mkTup (cons (cst (.str 1)) (cons (cst (.str 3)) (cons (cst (.str 17)) nil))))) (cst .none) (cst (.str 1)))) done) (sq (asg (tname 77) (tget [([1,3], (.str 3)), ([1,2], (.str 4)), ([3,2], (.str 4)), ([3,5], (.str 6)), ([4,5], (.str 6)), ([4,7], (.str 8)), ([6,9], (.str 8))] (cons (loc 22) (cons (loc 76) nil)))) (ret (ifx (isNone (loc 77)) (tget [([3,10], (.str 1)), ([4,10], (.str 1)), ([6,10], (.str 11)), ([8,10], (.str 11)), ([12,10], (.str 13)), ([6,14], (.str 12)), ([8,14], (.str 12)), ([11,14], (.str 15)), ([16,14], (.str 17)), ([12,14], (.str 12)), ([15,14], (.str 15)), ([13,14], (.str 13)), ([17,14], (.str 17)), ([11,18], (.str 16)), ([15,18], (.str 17)), ([13,18], (.str 1)), ([11,19], (.str 17)), ([17,20], (.str 1))] (cons (loc 22) (cons (loc 76) nil))) (loc 77)))))))
noncomputable def f_change_state : MF := fn [75, 76] [] (sq (asg (tname 22) (callF f_follow (cons (attr 19 (loc 75) 22) (cons (loc 76) nil)))) (sq (ite (isNone (loc 22)) bad done) (asg (tattr 19 (loc 75) 22) (loc 22))))
noncomputable def f_is_sending : MF := fn [22] [] (ret (val (rel inV (loc 22) (mkTup (cons (cst (.str 8)) (cons (cst (.str 11)) (cons (cst (.str 12)) (cons (cst (.str 15)) (cons (cst (.str 13)) nil)))))))))
noncomputable def f_take_asked_fin : MF := fn [75] [] (ite (andB (truth (attr 2 (attr 19 (loc 75) 37) 35)) (truth (callF f_is_sending (cons (attr 19 (loc 75) 22) nil)))) (sq (asg (tname 22) (callF f_follow (cons (attr 19 (loc 75) 22) (cons (cst (.str 10)) nil)))) (ite (notB (isNone (loc 22))) (asg (tattr 19 (loc 75) 22) (loc 22)) done)) done)
noncomputable def f_AckPolicy_on_sent : MF := fn [1] [] (sq (asg (tattr 58 (loc 1) 59) (cst (.int 0))) (asg (tattr 58 (loc 1) 60) (cst .none)))
noncomputable def f_Wheel_cancel : MF := fn [1, 83] [] (ite (rel inV (loc 83) (attr 63 (loc 1) 67)) (sq (asg (ttup [(tname 84), (tname 85)]) (bmeth 2 m_popD (attr 63 (loc 1) 67) (cons (loc 83) nil))) (for_ (tname 86) (mkTup (cons (attr 63 (loc 1) 66) (cons (bin idxV (attr 63 (loc 1) 65) (bin modV (loc 84) (attr 63 (loc 1) 5))) nil))) (ite (rel inV (loc 83) (loc 86)) (expr (bmeth 1 m_remove (loc 86) (cons (loc 83) nil))) done))) done)
noncomputable def f_check_number : MF := fn [89, 90] [] (ite (orB (rel (irel ltb) (loc 89) (cst (.int 0))) (notB (rel eqV (bin (nop Nat.shiftRight) (loc 89) (loc 90)) (cst (.int 0))))) bad done)
noncomputable def f_put16 : MF := fn [88] [] (ret (callB b_bytes (cons (mkList (cons (bin (nop Nat.land) (bin (nop Nat.shiftRight) (loc 88) (cst (.int 8))) (cst (.int 255))) (cons (bin (nop Nat.land) (loc 88) (cst (.int 255))) nil))) nil)))
noncomputable def f_mss_option : MF := fn [88] [] (sq (expr (callF f_check_number (cons (loc 88) (cons (cst (.int 16)) nil)))) (ret (bin addV (callB b_bytes (cons (mkList (cons (cst (.int 2)) (cons (cst (.int 4)) nil))) nil)) (callF f_put16 (cons (loc 88) nil)))))
noncomputable def f_plus : MF := fn [94, 88, 7] [] (ret (bin modV (bin addV (loc 94) (loc 88)) (loc 7)))
noncomputable def f_Receiver_free_edge : MF := fn [1] [] (ret (callF f_plus (cons (attr 81 (loc 1) 25) (cons (bin subV (attr 81 (loc 1) 30) (callB b_len (cons (attr 81 (loc 1) 93) nil))) (cons (attr 81 (loc 1) 7) nil)))))
noncomputable def f_distance : MF := fn [94, 96, 7] [] (ret (bin modV (bin subV (loc 96) (loc 94)) (loc 7)))
noncomputable def f_is_before : MF := fn [94, 96, 7] [] (sq (asg (tname 97) (callF f_distance (cons (loc 94) (cons (loc 96) (cons (loc 7) nil))))) (ret (val (andB (rel (irel gtb) (loc 97) (cst (.int 0))) (rel (irel ltb) (bin mulV (cst (.int 2)) (loc 97)) (loc 7))))))
noncomputable def f_Receiver_should_tell : MF := fn [1, 9] [] (sq (ite (orB (truth (attr 81 (loc 1) 98)) (notB (truth (callF f_is_before (cons (attr 81 (loc 1) 92) (cons (meth 81 95 f_Receiver_free_edge (loc 1) nil) (cons (attr 81 (loc 1) 7) nil))))))) (ret (cst .ff)) done) (ret (val (rel (irel geb) (callF f_distance (cons (attr 81 (loc 1) 92) (cons (meth 81 95 f_Receiver_free_edge (loc 1) nil) (cons (attr 81 (loc 1) 7) nil)))) (callB b_max (cons (cst (.int 1)) (cons (callB b_min (cons (loc 9) (cons (bin fdvV (attr 81 (loc 1) 30) (cst (.int 2))) nil))) nil)))))))
noncomputable def f_Receiver_told_window : MF := fn [1] [] (sq (ite (truth (callF f_is_before (cons (attr 81 (loc 1) 92) (cons (attr 81 (loc 1) 25) (cons (attr 81 (loc 1) 7) nil))))) (ret (cst (.int 0))) done) (ret (callF f_distance (cons (attr 81 (loc 1) 25) (cons (attr 81 (loc 1) 92) (cons (attr 81 (loc 1) 7) nil))))))
noncomputable def f_Receiver_window : MF := fn [1] [] (sq (ite (truth (meth 81 99 f_Receiver_should_tell (loc 1) (cons (attr 81 (loc 1) 9) nil))) (asg (tattr 81 (loc 1) 92) (meth 81 95 f_Receiver_free_edge (loc 1) nil)) done) (ret (meth 81 100 f_Receiver_told_window (loc 1) nil)))
noncomputable def f_Tcb_window_now : MF := fn [1] [] (sq (ite (isNone (attr 19 (loc 1) 38)) (ret (callB b_min (cons (attr 8 (attr 19 (loc 1) 18) 11) (cons (cst (.int 65535)) nil)))) done) (ret (callB b_min (cons (meth 81 101 f_Receiver_window (attr 19 (loc 1) 38) nil) (cons (cst (.int 65535)) nil)))))
noncomputable def f_Segment___init__ : MF := fn [1, 105, 107, 103, 79, 80, 101, 108, 91, 104] [(.int 0), (.bytes []), (.bytes [])] (sq (asg (tattr 106 (loc 1) 105) (loc 105)) (sq (asg (tattr 106 (loc 1) 107) (loc 107)) (sq (asg (tattr 106 (loc 1) 103) (loc 103)) (sq (asg (tattr 106 (loc 1) 79) (loc 79)) (sq (asg (tattr 106 (loc 1) 80) (loc 80)) (sq (asg (tattr 106 (loc 1) 101) (loc 101)) (sq (asg (tattr 106 (loc 1) 108) (loc 108)) (sq (asg (tattr 106 (loc 1) 91) (loc 91)) (asg (tattr 106 (loc 1) 104) (loc 104))))))))))
noncomputable def f_Tcb_make : MF := fn [1, 80, 103, 104] [(.bytes [])] (sq (asg (tname 79) (cst (.int 0))) (sq (ite (notB (isNone (attr 19 (loc 1) 38))) (sq (asg (tname 80) (bin (nop Nat.lor) (loc 80) (cst (.int 16)))) (sq (asg (tname 79) (attr 81 (attr 19 (loc 1) 38) 25)) (sq (expr (meth 58 82 f_AckPolicy_on_sent (attr 19 (loc 1) 62) nil)) (expr (meth 63 87 f_Wheel_cancel (attr 19 (loc 1) 70) (cons (cst (.int 3)) nil)))))) done) (sq (asg (tname 91) (ifx (notB (rel eqV (bin (nop Nat.land) (loc 80) (cst (.int 2))) (cst (.int 0)))) (callF f_mss_option (cons (callB b_min (cons (attr 8 (attr 19 (loc 1) 18) 9) (cons (cst (.int 65535)) nil))) nil)) (cst (.bytes [])))) (sq (asg (tname 101) (meth 19 102 f_Tcb_window_now (loc 1) nil)) (ret (callC 106 f_Segment___init__ (cons (bin idxV (attr 19 (loc 1) 20) (cst (.int 1))) (cons (bin idxV (attr 19 (loc 1) 21) (cst (.int 1))) (cons (loc 103) (cons (loc 79) (cons (loc 80) (cons (loc 101) (cons (cst (.int 0)) (cons (loc 91) (cons (loc 104) nil)))))))))))))))
noncomputable def f_latest : MF := fn [94, 96, 7] [] (ret (ifx (truth (callF f_is_before (cons (loc 94) (cons (loc 96) (cons (loc 7) nil))))) (loc 96) (loc 94)))
noncomputable def f_Sender_go_on : MF := fn [1, 109] [] (sq (asg (tattr 2 (loc 1) 25) (callF f_plus (cons (attr 2 (loc 1) 25) (cons (loc 109) (cons (attr 2 (loc 1) 7) nil))))) (asg (tattr 2 (loc 1) 26) (callF f_latest (cons (attr 2 (loc 1) 26) (cons (attr 2 (loc 1) 25) (cons (attr 2 (loc 1) 7) nil))))))
noncomputable def f_Sender_start : MF := fn [1] [] (sq (ite (notB (truth (attr 2 (loc 1) 34))) bad done) (sq (ite (rel eqV (attr 2 (loc 1) 25) (attr 2 (loc 1) 23)) (expr (meth 2 110 f_Sender_go_on (loc 1) (cons (cst (.int 1)) nil))) done) (ret (attr 2 (loc 1) 23))))
noncomputable def f_syn_segment : MF := fn [75] [] (ret (meth 19 112 f_Tcb_make (loc 75) (cons (cst (.int 2)) (cons (meth 2 111 f_Sender_start (attr 19 (loc 75) 37) nil) nil))))
noncomputable def f_RetransmitClock_sent : MF := fn [1, 113, 78] [] (ite (andB (isNone (attr 46 (loc 1) 47)) (rel eqV (attr 46 (loc 1) 6) (cst (.int 0)))) (sq (asg (tattr 46 (loc 1) 47) (loc 113)) (asg (tattr 46 (loc 1) 48) (loc 78))) done)
noncomputable def f_SendQueue_size : MF := fn [1] [] (ret (callB b_len (cons (attr 31 (loc 1) 32) nil)))
noncomputable def f_Sender_flight : MF := fn [1] [] (ret (callF f_distance (cons (attr 2 (loc 1) 24) (cons (attr 2 (loc 1) 25) (cons (attr 2 (loc 1) 7) nil)))))
noncomputable def f_Sender_data_sent : MF := fn [1] [] (ret (callB b_min (cons (meth 31 5 f_SendQueue_size (attr 2 (loc 1) 33) nil) (cons (callB b_max (cons (cst (.int 0)) (cons (bin subV (meth 2 116 f_Sender_flight (loc 1) nil) (callB b_int (cons (attr 2 (loc 1) 34) nil))) nil))) nil))))
noncomputable def f_Sender_unsent : MF := fn [1] [] (ret (bin subV (meth 31 5 f_SendQueue_size (attr 2 (loc 1) 33) nil) (meth 2 117 f_Sender_data_sent (loc 1) nil)))
noncomputable def f_Sender_usable : MF := fn [1, 119] [] (ret (callB b_max (cons (cst (.int 0)) (cons (bin subV (callB b_min (cons (prop 2 101 f_Sender_window (loc 1)) (cons (loc 119) nil))) (meth 2 116 f_Sender_flight (loc 1) nil)) nil))))
noncomputable def f_Sender_may_go : MF := fn [1, 109, 74] [] (sq (ite (rel (irel geb) (loc 109) (attr 2 (loc 1) 9)) (ret (cst .tt)) done) (sq (ite (andB (truth (loc 74)) (andB (rel (irel gtb) (meth 2 116 f_Sender_flight (loc 1) nil) (cst (.int 0))) (notB (andB (truth (attr 2 (loc 1) 35)) (rel eqV (loc 109) (meth 2 118 f_Sender_unsent (loc 1) nil)))))) (ret (cst .ff)) done) (ret (val (orB (rel eqV (loc 109) (meth 2 118 f_Sender_unsent (loc 1) nil)) (rel (irel geb) (bin mulV (cst (.int 2)) (loc 109)) (attr 4 (attr 2 (loc 1) 3) 27)))))))
noncomputable def f_SendQueue_part : MF := fn [1, 122, 109] [] (sq (ite (orB (rel (irel ltb) (loc 122) (cst (.int 0))) (orB (rel (irel ltb) (loc 109) (cst (.int 0))) (rel (irel gtb) (bin addV (loc 122) (loc 109)) (callB b_len (cons (attr 31 (loc 1) 32) nil))))) bad done) (ret (slc (attr 31 (loc 1) 32) (loc 122) (bin addV (loc 122) (loc 109)))))
noncomputable def f_Sender_piece_of : MF := fn [1, 109, 119] [] (sq (asg (tname 103) (attr 2 (loc 1) 25)) (sq (asg (tname 124) (meth 31 123 f_SendQueue_part (attr 2 (loc 1) 33) (cons (meth 2 117 f_Sender_data_sent (loc 1) nil) (cons (loc 109) nil)))) (sq (asg (tname 125) (val (rel eqV (loc 109) (meth 2 118 f_Sender_unsent (loc 1) nil)))) (sq (asg (tname 98) (val (andB (truth (loc 125)) (andB (truth (attr 2 (loc 1) 35)) (rel (irel gtb) (meth 2 120 f_Sender_usable (loc 1) (cons (loc 119) nil)) (loc 109)))))) (sq (asg (tattr 2 (loc 1) 36) (val (orB (truth (attr 2 (loc 1) 36)) (truth (loc 98))))) (sq (expr (meth 2 110 f_Sender_go_on (loc 1) (cons (bin addV (loc 109) (callB b_int (cons (loc 98) nil))) nil))) (ret (mkTup (cons (loc 103) (cons (loc 124) (cons (loc 125) (cons (loc 98) nil))))))))))))
noncomputable def f_Sender_is_fin_acked : MF := fn [1] [] (ret (val (andB (truth (attr 2 (loc 1) 36)) (andB (notB (truth (attr 2 (loc 1) 34))) (andB (rel eqV (meth 31 5 f_SendQueue_size (attr 2 (loc 1) 33) nil) (cst (.int 0))) (rel eqV (attr 2 (loc 1) 24) (attr 2 (loc 1) 26)))))))
noncomputable def f_Sender_is_fin_due : MF := fn [1] [] (sq (asg (tname 30) (bin addV (meth 31 5 f_SendQueue_size (attr 2 (loc 1) 33) nil) (callB b_int (cons (attr 2 (loc 1) 34) nil)))) (ret (val (andB (truth (attr 2 (loc 1) 35)) (andB (notB (truth (meth 2 127 f_Sender_is_fin_acked (loc 1) nil))) (rel (irel leb) (meth 2 116 f_Sender_flight (loc 1) nil) (loc 30)))))))
noncomputable def f_Sender_pieces : MF := fn [1, 119, 74] [.tt] (sq (asg (tname 77) (mkList nil)) (sq (ite (truth (attr 2 (loc 1) 34)) (ret (loc 77)) done) (sq (whl (rel (irel gtb) (meth 2 118 f_Sender_unsent (loc 1) nil) (cst (.int 0))) (sq (asg (tname 109) (callB b_min (cons (attr 2 (loc 1) 9) (cons (meth 2 118 f_Sender_unsent (loc 1) nil) (cons (meth 2 120 f_Sender_usable (loc 1) (cons (loc 119) nil)) nil))))) (sq (ite (orB (rel eqV (loc 109) (cst (.int 0))) (notB (truth (meth 2 121 f_Sender_may_go (loc 1) (cons (loc 109) (cons (loc 74) nil)))))) (ret (loc 77)) done) (expr (bmeth 1 m_append (loc 77) (cons (meth 2 126 f_Sender_piece_of (loc 1) (cons (loc 109) (cons (loc 119) nil))) nil)))))) (sq (ite (andB (truth (meth 2 128 f_Sender_is_fin_due (loc 1) nil)) (rel (irel gtb) (meth 2 120 f_Sender_usable (loc 1) (cons (loc 119) nil)) (cst (.int 0)))) (sq (expr (bmeth 1 m_append (loc 77) (cons (mkTup (cons (attr 2 (loc 1) 25) (cons (cst (.bytes [])) (cons (cst .ff) (cons (cst .tt) nil))))) nil))) (sq (asg (tattr 2 (loc 1) 36) (cst .tt)) (expr (meth 2 110 f_Sender_go_on (loc 1) (cons (cst (.int 1)) nil))))) done) (ret (loc 77))))))
noncomputable def f_Congestion_window : MF := fn [1] [] (ret (attr 50 (loc 1) 5))
noncomputable def f_flags_of : MF := fn [130, 98] [] (sq (asg (tname 80) (cst (.int 16))) (sq (ite (truth (loc 130)) (asg (tname 80) (bin (nop Nat.lor) (loc 80) (cst (.int 8)))) done) (sq (ite (truth (loc 98)) (asg (tname 80) (bin (nop Nat.lor) (loc 80) (cst (.int 1)))) done) (ret (loc 80)))))
noncomputable def f_data_segments : MF := fn [75, 78] [] (sq (asg (tname 77) (mkList nil)) (sq (asg (tname 7) (attr 8 (attr 19 (loc 75) 18) 7)) (sq (asg (tname 115) (attr 2 (attr 19 (loc 75) 37) 26)) (sq (forL (ttup [(tname 103), (tname 124), (tname 130), (tname 98)]) (meth 2 129 f_Sender_pieces (attr 19 (loc 75) 37) (cons (meth 50 101 f_Congestion_window (attr 19 (loc 75) 56) nil) (cons (attr 19 (loc 75) 74) nil))) (sq (asg (tname 131) (callF f_plus (cons (loc 103) (cons (bin addV (callB b_len (cons (loc 124) nil)) (ifx (truth (loc 98)) (cst (.int 1)) (cst (.int 0)))) (cons (loc 7) nil))))) (sq (ite (truth (callF f_is_before (cons (loc 115) (cons (loc 131) (cons (loc 7) nil))))) (expr (meth 46 114 f_RetransmitClock_sent (attr 19 (loc 75) 49) (cons (loc 131) (cons (loc 78) nil)))) done) (expr (bmeth 1 m_append (loc 77) (cons (meth 19 112 f_Tcb_make (loc 75) (cons (callF f_flags_of (cons (loc 130) (cons (loc 98) nil))) (cons (loc 103) (cons (loc 124) nil)))) nil)))))) (ret (loc 77))))))
noncomputable def f_Wheel_time_of : MF := fn [1, 83] [] (ret (ifx (rel inV (loc 83) (attr 63 (loc 1) 67)) (bin idxV (bin idxV (attr 63 (loc 1) 67) (loc 83)) (cst (.int 0))) (cst .none)))
noncomputable def f_Wheel_list_of : MF := fn [1, 84] [] (sq (ite (andB (notB (isNone (attr 63 (loc 1) 68))) (rel (irel leb) (loc 84) (attr 63 (loc 1) 68))) (ret (attr 63 (loc 1) 66)) done) (ret (bin idxV (attr 63 (loc 1) 65) (bin modV (loc 84) (attr 63 (loc 1) 5)))))
noncomputable def f_Wheel_put : MF := fn [1, 83, 84] [] (sq (expr (meth 63 87 f_Wheel_cancel (loc 1) (cons (loc 83) nil))) (sq (asg (tattr 63 (loc 1) 69) (bin addV (attr 63 (loc 1) 69) (cst (.int 1)))) (sq (asg (tsub (attr 63 (loc 1) 67) (loc 83)) (mkTup (cons (loc 84) (cons (attr 63 (loc 1) 69) nil)))) (expr (bmeth 1 m_append (meth 63 133 f_Wheel_list_of (loc 1) (cons (loc 84) nil)) (cons (loc 83) nil))))))
noncomputable def f_RttEstimate_bounded : MF := fn [1, 134] [] (sq (ite (rel (irel ltb) (loc 134) (attr 40 (loc 1) 41)) (ret (attr 40 (loc 1) 41)) done) (ret (ifx (rel (irel gtb) (loc 134) (attr 40 (loc 1) 27)) (attr 40 (loc 1) 27) (loc 134))))
noncomputable def f_RttEstimate_plain_timeout : MF := fn [1] [] (sq (ite (rel eqV (attr 40 (loc 1) 44) (cst (.int 0))) (ret (attr 40 (loc 1) 39)) done) (ret (bin addV (bin fdvV (attr 40 (loc 1) 42) (cst (.int 8))) (attr 40 (loc 1) 43))))
noncomputable def f_RttEstimate_timeout : MF := fn [1] [] (ret (meth 40 136 f_RttEstimate_bounded (loc 1) (cons (meth 40 135 f_RttEstimate_plain_timeout (loc 1) nil) nil)))
noncomputable def f_RetransmitClock_waited : MF := fn [1] [] (sq (asg (tname 134) (meth 40 137 f_RttEstimate_timeout (attr 46 (loc 1) 45) nil)) (sq (for_ (tname 138) (callB b_range (cons (ifx (rel (irel gtb) (attr 46 (loc 1) 6) (cst (.int 7))) (cst (.int 7)) (attr 46 (loc 1) 6)) nil)) (asg (tname 134) (bin mulV (cst (.int 2)) (loc 134)))) (ret (meth 40 136 f_RttEstimate_bounded (attr 46 (loc 1) 45) (cons (loc 134) nil)))))
noncomputable def f_RetransmitClock_deadline : MF := fn [1, 78] [] (ret (bin addV (loc 78) (meth 46 139 f_RetransmitClock_waited (loc 1) nil)))
noncomputable def f_Sender_is_idle_with_more : MF := fn [1] [] (sq (ite (orB (truth (attr 2 (loc 1) 34)) (rel (irel gtb) (meth 2 116 f_Sender_flight (loc 1) nil) (cst (.int 0)))) (ret (cst .ff)) done) (ret (val (orB (rel (irel gtb) (meth 2 118 f_Sender_unsent (loc 1) nil) (cst (.int 0))) (truth (meth 2 128 f_Sender_is_fin_due (loc 1) nil))))))
noncomputable def f_Sender_needs_probe : MF := fn [1] [] (sq (ite (notB (truth (meth 2 142 f_Sender_is_idle_with_more (loc 1) nil))) (ret (cst .ff)) done) (sq (ite (rel eqV (prop 2 101 f_Sender_window (loc 1)) (cst (.int 0))) (ret (cst .tt)) done) (sq (asg (tname 109) (callB b_min (cons (attr 2 (loc 1) 9) (cons (meth 2 118 f_Sender_unsent (loc 1) nil) (cons (prop 2 101 f_Sender_window (loc 1)) nil))))) (ret (val (andB (rel (irel gtb) (loc 109) (cst (.int 0))) (notB (truth (meth 2 121 f_Sender_may_go (loc 1) (cons (loc 109) (cons (cst .tt) nil)))))))))))
noncomputable def f_probe_wait : MF := fn [75] [] (sq (asg (tname 45) (attr 46 (attr 19 (loc 75) 49) 45)) (ret (meth 40 136 f_RttEstimate_bounded (loc 45) (cons (bin mulV (meth 40 137 f_RttEstimate_timeout (loc 45) nil) (bin powV (cst (.int 2)) (callB b_min (cons (attr 19 (loc 75) 72) (cons (cst (.int 7)) nil))))) nil))))
noncomputable def f_keep_timers : MF := fn [75, 78] [] (sq (ite (rel inV (attr 19 (loc 75) 22) (mkTup (cons (cst (.str 1)) (cons (cst (.str 3)) (cons (cst (.str 17)) nil))))) (ret (cst .none)) done) (sq (ite (rel eqV (meth 2 116 f_Sender_flight (attr 19 (loc 75) 37) nil) (cst (.int 0))) (expr (meth 63 87 f_Wheel_cancel (attr 19 (loc 75) 70) (cons (cst (.int 1)) nil))) (ite (isNone (meth 63 132 f_Wheel_time_of (attr 19 (loc 75) 70) (cons (cst (.int 1)) nil))) (expr (meth 63 141 f_Wheel_put (attr 19 (loc 75) 70) (cons (cst (.int 1)) (cons (meth 46 140 f_RetransmitClock_deadline (attr 19 (loc 75) 49) (cons (loc 78) nil)) nil)))) done)) (ite (orB (notB (truth (callF f_is_sending (cons (attr 19 (loc 75) 22) nil)))) (notB (truth (meth 2 143 f_Sender_needs_probe (attr 19 (loc 75) 37) nil)))) (sq (expr (meth 63 87 f_Wheel_cancel (attr 19 (loc 75) 70) (cons (cst (.int 2)) nil))) (asg (tattr 19 (loc 75) 72) (cst (.int 0)))) (ite (isNone (meth 63 132 f_Wheel_time_of (attr 19 (loc 75) 70) (cons (cst (.int 2)) nil))) (expr (meth 63 141 f_Wheel_put (attr 19 (loc 75) 70) (cons (cst (.int 2)) (cons (bin addV (loc 78) (callF f_probe_wait (cons (loc 75) nil))) nil)))) done))))
noncomputable def f_output : MF := fn [75, 78] [] (sq (expr (callF f_take_asked_fin (cons (loc 75) nil))) (sq (asg (tname 77) (mkList nil)) (sq (ite (rel inV (attr 19 (loc 75) 22) (mkTup (cons (cst (.str 4)) (cons (cst (.str 6)) nil)))) (ite (rel eqV (attr 2 (attr 19 (loc 75) 37) 25) (attr 2 (attr 19 (loc 75) 37) 23)) (sq (expr (bmeth 1 m_append (loc 77) (cons (callF f_syn_segment (cons (loc 75) nil)) nil))) (expr (meth 46 114 f_RetransmitClock_sent (attr 19 (loc 75) 49) (cons (attr 2 (attr 19 (loc 75) 37) 25) (cons (loc 78) nil))))) done) (ite (truth (callF f_is_sending (cons (attr 19 (loc 75) 22) nil))) (asg (tname 77) (callF f_data_segments (cons (loc 75) (cons (loc 78) nil)))) done)) (sq (expr (callF f_keep_timers (cons (loc 75) (cons (loc 78) nil)))) (ret (loc 77))))))
noncomputable def f_open_active : MF := fn [75, 78] [] (sq (expr (callF f_change_state (cons (loc 75) (cons (cst (.str 2)) nil)))) (ret (callF f_output (cons (loc 75) (cons (loc 78) nil)))))
noncomputable def f_Sender_ever_sent : MF := fn [1] [] (ret (callF f_distance (cons (attr 2 (loc 1) 24) (cons (attr 2 (loc 1) 26) (cons (attr 2 (loc 1) 7) nil)))))
noncomputable def f_SendQueue_drop : MF := fn [1, 109] [] (sq (ite (orB (rel (irel ltb) (loc 109) (cst (.int 0))) (rel (irel gtb) (loc 109) (callB b_len (cons (attr 31 (loc 1) 32) nil)))) bad done) (asg (tattr 31 (loc 1) 32) (slc (attr 31 (loc 1) 32) (loc 109) (cst .none))))
noncomputable def f_Sender_acked : MF := fn [1, 79] [] (sq (asg (tname 109) (callF f_distance (cons (attr 2 (loc 1) 24) (cons (loc 79) (cons (attr 2 (loc 1) 7) nil))))) (sq (ite (orB (rel eqV (loc 109) (cst (.int 0))) (rel (irel gtb) (loc 109) (meth 2 144 f_Sender_ever_sent (loc 1) nil))) (ret (mkTup (cons (cst (.int 0)) (cons (cst .ff) (cons (cst .ff) nil))))) done) (sq (asg (tname 115) (meth 2 116 f_Sender_flight (loc 1) nil)) (sq (asg (tname 145) (attr 2 (loc 1) 34)) (sq (asg (tattr 2 (loc 1) 34) (cst .ff)) (sq (asg (tname 124) (callB b_min (cons (bin subV (loc 109) (callB b_int (cons (loc 145) nil))) (cons (meth 31 5 f_SendQueue_size (attr 2 (loc 1) 33) nil) nil)))) (sq (expr (meth 31 146 f_SendQueue_drop (attr 2 (loc 1) 33) (cons (loc 124) nil))) (sq (asg (tattr 2 (loc 1) 24) (loc 79)) (sq (ite (rel (irel ltb) (loc 115) (loc 109)) (asg (tattr 2 (loc 1) 25) (loc 79)) done) (ret (mkTup (cons (loc 124) (cons (loc 145) (cons (val (rel (irel gtb) (bin subV (loc 109) (callB b_int (cons (loc 145) nil))) (loc 124))) nil))))))))))))))
noncomputable def f_PeerWindow_is_newer : MF := fn [1, 103, 79] [] (sq (ite (isNone (attr 4 (loc 1) 28)) (ret (cst .tt)) done) (sq (asg (tname 115) (callF f_distance (cons (attr 4 (loc 1) 28) (cons (loc 103) (cons (attr 4 (loc 1) 7) nil))))) (sq (ite (rel eqV (loc 115) (cst (.int 0))) (ret (val (rel (irel ltb) (callF f_distance (cons (attr 4 (loc 1) 29) (cons (loc 79) (cons (attr 4 (loc 1) 7) nil)))) (bin fdvV (attr 4 (loc 1) 7) (cst (.int 2)))))) done) (ret (val (rel (irel ltb) (loc 115) (bin fdvV (attr 4 (loc 1) 7) (cst (.int 2)))))))))
noncomputable def f_PeerWindow_take : MF := fn [1, 103, 79, 5] [] (sq (ite (notB (truth (meth 4 148 f_PeerWindow_is_newer (loc 1) (cons (loc 103) (cons (loc 79) nil))))) (ret (cst .ff)) done) (sq (asg (tattr 4 (loc 1) 28) (loc 103)) (sq (asg (tattr 4 (loc 1) 29) (loc 79)) (sq (asg (tattr 4 (loc 1) 5) (loc 5)) (sq (asg (tattr 4 (loc 1) 27) (callB b_max (cons (attr 4 (loc 1) 27) (cons (loc 5) nil)))) (ret (cst .tt)))))))
noncomputable def f_Sender_take_window : MF := fn [1, 103, 79, 101] [] (ret (meth 4 149 f_PeerWindow_take (attr 2 (loc 1) 3) (cons (loc 103) (cons (loc 79) (cons (loc 101) nil)))))
noncomputable def f__law_open : MF := fn [18] [] (sq (asg (tname 75) (callC 19 f_Tcb___init__ (cons (loc 18) (cons (mkTup (cons (cst (.int 1)) (cons (cst (.int 10)) nil))) (cons (mkTup (cons (cst (.int 2)) (cons (cst (.int 20)) nil))) (cons (cst (.int 250)) nil)))))) (sq (expr (callF f_open_active (cons (loc 75) (cons (cst (.int 0)) nil)))) (sq (expr (meth 2 147 f_Sender_acked (attr 19 (loc 75) 37) (cons (attr 2 (attr 19 (loc 75) 37) 25) nil))) (sq (expr (callF f_change_state (cons (loc 75) (cons (cst (.str 7)) nil)))) (sq (expr (callF f_output (cons (loc 75) (cons (cst (.int 0)) nil)))) (sq (expr (meth 2 150 f_Sender_take_window (attr 19 (loc 75) 37) (cons (cst (.int 8)) (cons (attr 2 (attr 19 (loc 75) 37) 24) (cons (cst (.int 40)) nil))))) (sq (asg (tattr 50 (attr 19 (loc 75) 56) 5) (cst (.int 31))) (ret (loc 75)))))))))
noncomputable def f_check_error : MF := fn [75] [] (sq (ite (rel eqV (attr 19 (loc 75) 71) (cst (.str 24))) bad done) (ite (notB (isNone (attr 19 (loc 75) 71))) bad done))
noncomputable def f_may_send : MF := fn [22] [] (ret (val (rel inV (loc 22) (mkTup (cons (cst (.str 4)) (cons (cst (.str 6)) (cons (cst (.str 8)) (cons (cst (.str 12)) nil))))))))
noncomputable def f_SendQueue_room_left : MF := fn [1] [] (ret (bin subV (attr 31 (loc 1) 30) (callB b_len (cons (attr 31 (loc 1) 32) nil))))
noncomputable def f_SendQueue_put : MF := fn [1, 124] [] (sq (asg (tname 152) (callB b_min (cons (callB b_len (cons (loc 124) nil)) (cons (meth 31 151 f_SendQueue_room_left (loc 1) nil) nil)))) (sq (asg (tattr 31 (loc 1) 32) (bin addV (attr 31 (loc 1) 32) (callB b_bytes (cons (slc (loc 124) (cst .none) (loc 152)) nil)))) (ret (loc 152))))
noncomputable def f_Sender_put : MF := fn [1, 124] [] (sq (ite (truth (attr 2 (loc 1) 35)) bad done) (ret (meth 31 141 f_SendQueue_put (attr 2 (loc 1) 33) (cons (loc 124) nil))))
noncomputable def f_send : MF := fn [75, 124, 78] [] (sq (expr (callF f_check_error (cons (loc 75) nil))) (sq (ite (orB (notB (truth (callF f_may_send (cons (attr 19 (loc 75) 22) nil)))) (truth (attr 2 (attr 19 (loc 75) 37) 35))) bad done) (sq (asg (tname 152) (meth 2 141 f_Sender_put (attr 19 (loc 75) 37) (cons (loc 124) nil))) (ret (mkTup (cons (loc 152) (cons (callF f_output (cons (loc 75) (cons (loc 78) nil))) nil)))))))
noncomputable def f_closed : MF := fn [75, 71] [] (sq (asg (tattr 19 (loc 75) 22) (cst (.str 1))) (sq (ite (notB (isNone (loc 71))) (asg (tattr 19 (loc 75) 71) (loc 71)) done) (for_ (tname 83) (mkTup (cons (cst (.int 1)) (cons (cst (.int 2)) (cons (cst (.int 3)) (cons (cst (.int 4)) nil))))) (expr (meth 63 87 f_Wheel_cancel (attr 19 (loc 75) 70) (cons (loc 83) nil))))))
noncomputable def f_Sender_ask_fin : MF := fn [1] [] (asg (tattr 2 (loc 1) 35) (cst .tt))
noncomputable def f_close : MF := fn [75, 78] [] (sq (ite (truth (attr 2 (attr 19 (loc 75) 37) 35)) bad done) (sq (ite (isNone (callF f_follow (cons (attr 19 (loc 75) 22) (cons (cst (.str 10)) nil)))) bad done) (sq (ite (rel inV (attr 19 (loc 75) 22) (mkTup (cons (cst (.str 3)) (cons (cst (.str 4)) nil)))) (sq (expr (callF f_closed (cons (loc 75) (cons (cst .none) nil)))) (ret (mkList nil))) done) (sq (expr (meth 2 154 f_Sender_ask_fin (attr 19 (loc 75) 37) nil)) (ret (callF f_output (cons (loc 75) (cons (loc 78) nil))))))))
noncomputable def f_Wheel_keys_until : MF := fn [1, 78] [] (sq (ite (orB (isNone (attr 63 (loc 1) 68)) (rel (irel geb) (bin subV (loc 78) (attr 63 (loc 1) 68)) (attr 63 (loc 1) 5))) (ret (callB b_list (cons (attr 63 (loc 1) 67) nil))) done) (sq (asg (tname 77) (callB b_list (cons (attr 63 (loc 1) 66) nil))) (sq (for_ (tname 84) (callB b_range (cons (bin addV (attr 63 (loc 1) 68) (cst (.int 1))) (cons (bin addV (loc 78) (cst (.int 1))) nil))) (asg (tname 77) (bin addV (loc 77) (bin idxV (attr 63 (loc 1) 65) (bin modV (loc 84) (attr 63 (loc 1) 5)))))) (ret (loc 77)))))
noncomputable def f_Wheel_due : MF := fn [1, 78] [] (sq (asg (tname 77) (mkList nil)) (sq (for_ (tname 83) (meth 63 156 f_Wheel_keys_until (loc 1) (cons (loc 78) nil)) (sq (asg (ttup [(tname 84), (tname 85)]) (bin idxV (attr 63 (loc 1) 67) (loc 83))) (ite (rel (irel leb) (loc 84) (loc 78)) (expr (bmeth 1 m_append (loc 77) (cons (mkTup (cons (loc 84) (cons (loc 85) (cons (loc 83) nil)))) nil))) done))) (sq (forL (ttup [(tname 84), (tname 85), (tname 83)]) (loc 77) (expr (meth 63 87 f_Wheel_cancel (loc 1) (cons (loc 83) nil)))) (sq (ite (orB (isNone (attr 63 (loc 1) 68)) (rel (irel gtb) (loc 78) (attr 63 (loc 1) 68))) (asg (tattr 63 (loc 1) 68) (loc 78)) done) (ret (compL (loc 83) (ttup [(tname 84), (tname 85), (tname 83)]) (callB b_sorted (cons (loc 77) nil))))))))
noncomputable def f_Congestion_halved : MF := fn [1, 116] [] (sq (asg (tname 157) (bin fdvV (loc 116) (cst (.int 2)))) (ret (ifx (rel (irel gtb) (loc 157) (bin mulV (cst (.int 2)) (attr 50 (loc 1) 9))) (loc 157) (bin mulV (cst (.int 2)) (attr 50 (loc 1) 9)))))
noncomputable def f_Congestion_timed_out : MF := fn [1, 116] [] (sq (asg (tattr 50 (loc 1) 51) (meth 50 158 f_Congestion_halved (loc 1) (cons (loc 116) nil))) (sq (asg (tattr 50 (loc 1) 5) (attr 50 (loc 1) 9)) (sq (asg (tattr 50 (loc 1) 52) (cst (.int 0))) (sq (asg (tattr 50 (loc 1) 53) (cst (.int 0))) (sq (asg (tattr 50 (loc 1) 54) (cst .ff)) (asg (tattr 50 (loc 1) 55) (cst .tt)))))))
noncomputable def f_RetransmitClock_back_off : MF := fn [1] [] (sq (asg (tattr 46 (loc 1) 47) (cst .none)) (sq (asg (tattr 46 (loc 1) 6) (bin addV (attr 46 (loc 1) 6) (cst (.int 1)))) (ret (val (rel (irel leb) (attr 46 (loc 1) 6) (attr 46 (loc 1) 15))))))
noncomputable def f_Sender_back_to : MF := fn [1, 103] [] (sq (ite (rel (irel gtb) (callF f_distance (cons (attr 2 (loc 1) 24) (cons (loc 103) (cons (attr 2 (loc 1) 7) nil)))) (meth 2 116 f_Sender_flight (loc 1) nil)) bad done) (asg (tattr 2 (loc 1) 25) (loc 103)))
noncomputable def f_RetransmitClock_forget : MF := fn [1] [] (asg (tattr 46 (loc 1) 47) (cst .none))
noncomputable def f_Sender_reach : MF := fn [1, 109] [] (ite (rel (irel ltb) (meth 2 116 f_Sender_flight (loc 1) nil) (loc 109)) (asg (tattr 2 (loc 1) 25) (callF f_plus (cons (attr 2 (loc 1) 24) (cons (loc 109) (cons (attr 2 (loc 1) 7) nil))))) done)
noncomputable def f_Sender_first_piece : MF := fn [1] [] (sq (asg (tname 109) (meth 2 144 f_Sender_ever_sent (loc 1) nil)) (sq (ite (rel eqV (loc 109) (cst (.int 0))) (ret (cst .none)) done) (sq (ite (truth (attr 2 (loc 1) 34)) (sq (expr (meth 2 163 f_Sender_reach (loc 1) (cons (cst (.int 1)) nil))) (ret (mkTup (cons (attr 2 (loc 1) 23) (cons (cst (.bytes [])) (cons (cst .tt) (cons (cst .ff) nil))))))) done) (sq (asg (tname 5) (callB b_min (cons (attr 2 (loc 1) 9) (cons (meth 31 5 f_SendQueue_size (attr 2 (loc 1) 33) nil) (cons (loc 109) nil))))) (sq (asg (tname 98) (val (andB (truth (attr 2 (loc 1) 36)) (andB (rel eqV (loc 5) (meth 31 5 f_SendQueue_size (attr 2 (loc 1) 33) nil)) (rel (irel gtb) (loc 109) (loc 5)))))) (sq (expr (meth 2 163 f_Sender_reach (loc 1) (cons (bin addV (loc 5) (callB b_int (cons (loc 98) nil))) nil))) (ret (mkTup (cons (attr 2 (loc 1) 24) (cons (meth 31 123 f_SendQueue_part (attr 2 (loc 1) 33) (cons (cst (.int 0)) (cons (loc 5) nil))) (cons (cst .ff) (cons (loc 98) nil))))))))))))
noncomputable def f_segment_again : MF := fn [75] [] (sq (expr (meth 46 162 f_RetransmitClock_forget (attr 19 (loc 75) 49) nil)) (sq (asg (ttup [(tname 103), (tname 124), (tname 165), (tname 98)]) (meth 2 164 f_Sender_first_piece (attr 19 (loc 75) 37) nil)) (sq (ite (truth (loc 165)) (ret (meth 19 112 f_Tcb_make (loc 75) (cons (cst (.int 2)) (cons (loc 103) nil)))) done) (ret (meth 19 112 f_Tcb_make (loc 75) (cons (callF f_flags_of (cons (cst .tt) (cons (loc 98) nil))) (cons (loc 103) (cons (loc 124) nil))))))))
noncomputable def f_sent_again : MF := fn [75, 78] [] (sq (asg (tname 116) (meth 2 116 f_Sender_flight (attr 19 (loc 75) 37) nil)) (sq (ite (rel eqV (loc 116) (cst (.int 0))) (ret (mkList nil)) done) (sq (expr (meth 50 159 f_Congestion_timed_out (attr 19 (loc 75) 56) (cons (loc 116) nil))) (sq (ite (notB (truth (meth 46 160 f_RetransmitClock_back_off (attr 19 (loc 75) 49) nil))) (sq (expr (callF f_closed (cons (loc 75) (cons (cst (.str 24)) nil)))) (ret (mkList nil))) done) (sq (expr (meth 2 161 f_Sender_back_to (attr 19 (loc 75) 37) (cons (attr 2 (attr 19 (loc 75) 37) 24) nil))) (sq (asg (tname 77) (mkList (cons (callF f_segment_again (cons (loc 75) nil)) nil))) (sq (expr (meth 63 141 f_Wheel_put (attr 19 (loc 75) 70) (cons (cst (.int 1)) (cons (meth 46 140 f_RetransmitClock_deadline (attr 19 (loc 75) 49) (cons (loc 78) nil)) nil)))) (ret (loc 77)))))))))
noncomputable def f_Sender_probe : MF := fn [1] [] (sq (ite (notB (truth (meth 2 143 f_Sender_needs_probe (loc 1) nil))) (ret (cst .none)) done) (sq (ite (rel (irel gtb) (prop 2 101 f_Sender_window (loc 1)) (cst (.int 0))) (ret (meth 2 126 f_Sender_piece_of (loc 1) (cons (callB b_min (cons (attr 2 (loc 1) 9) (cons (meth 2 118 f_Sender_unsent (loc 1) nil) (cons (prop 2 101 f_Sender_window (loc 1)) nil)))) (cons (prop 2 101 f_Sender_window (loc 1)) nil)))) done) (sq (asg (tattr 2 (loc 1) 26) (callF f_latest (cons (attr 2 (loc 1) 26) (cons (callF f_plus (cons (attr 2 (loc 1) 25) (cons (cst (.int 1)) (cons (attr 2 (loc 1) 7) nil)))) (cons (attr 2 (loc 1) 7) nil))))) (sq (ite (rel eqV (meth 2 118 f_Sender_unsent (loc 1) nil) (cst (.int 0))) (sq (asg (tattr 2 (loc 1) 36) (cst .tt)) (ret (mkTup (cons (attr 2 (loc 1) 25) (cons (cst (.bytes [])) (cons (cst .ff) (cons (cst .tt) nil))))))) done) (ret (mkTup (cons (attr 2 (loc 1) 25) (cons (meth 31 123 f_SendQueue_part (attr 2 (loc 1) 33) (cons (meth 2 117 f_Sender_data_sent (loc 1) nil) (cons (cst (.int 1)) nil))) (cons (val (rel eqV (meth 2 118 f_Sender_unsent (loc 1) nil) (cst (.int 1)))) (cons (cst .ff) nil))))))))))
noncomputable def f_probed : MF := fn [75, 78] [] (sq (asg (tname 167) (meth 2 166 f_Sender_probe (attr 19 (loc 75) 37) nil)) (sq (ite (isNone (loc 167)) (ret (callF f_output (cons (loc 75) (cons (loc 78) nil)))) done) (sq (asg (ttup [(tname 103), (tname 124), (tname 130), (tname 98)]) (loc 167)) (sq (asg (tattr 19 (loc 75) 73) (bin addV (attr 19 (loc 75) 73) (cst (.int 1)))) (sq (ite (rel (irel gtb) (attr 19 (loc 75) 73) (attr 8 (attr 19 (loc 75) 18) 15)) (sq (expr (callF f_closed (cons (loc 75) (cons (cst (.str 24)) nil)))) (ret (mkList nil))) done) (sq (asg (tattr 19 (loc 75) 72) (bin addV (attr 19 (loc 75) 72) (cst (.int 1)))) (sq (asg (tname 77) (mkList (cons (meth 19 112 f_Tcb_make (loc 75) (cons (callF f_flags_of (cons (loc 130) (cons (loc 98) nil))) (cons (loc 103) (cons (loc 124) nil)))) nil))) (sq (expr (callF f_keep_timers (cons (loc 75) (cons (loc 78) nil)))) (ret (loc 77))))))))))
noncomputable def f_AckPolicy_due_time : MF := fn [1] [] (ret (attr 58 (loc 1) 60))
noncomputable def f_ack_segment : MF := fn [75] [] (ret (meth 19 112 f_Tcb_make (loc 75) (cons (cst (.int 16)) (cons (attr 2 (attr 19 (loc 75) 37) 25) nil))))
noncomputable def f_on_time : MF := fn [75, 78] [] (sq (asg (tname 77) (mkList nil)) (sq (for_ (tname 83) (meth 63 60 f_Wheel_due (attr 19 (loc 75) 70) (cons (loc 78) nil)) (sq (ite (rel eqV (attr 19 (loc 75) 22) (cst (.str 1))) (ret (loc 77)) done) (ite (rel eqV (loc 83) (cst (.int 1))) (expr (bmeth 1 m_extend (loc 77) (cons (callF f_sent_again (cons (loc 75) (cons (loc 78) nil))) nil))) (ite (rel eqV (loc 83) (cst (.int 2))) (expr (bmeth 1 m_extend (loc 77) (cons (callF f_probed (cons (loc 75) (cons (loc 78) nil))) nil))) (ite (rel eqV (loc 83) (cst (.int 3))) (ite (notB (isNone (meth 58 168 f_AckPolicy_due_time (attr 19 (loc 75) 62) nil))) (expr (bmeth 1 m_append (loc 77) (cons (callF f_ack_segment (cons (loc 75) nil)) nil))) done) (ite (rel eqV (attr 19 (loc 75) 22) (cst (.str 17))) (expr (callF f_closed (cons (loc 75) (cons (cst .none) nil)))) done)))))) (ret (loc 77))))
noncomputable def f__law_times : MF := fn [75] [] (ret (comp id (meth 63 132 f_Wheel_time_of (attr 19 (loc 75) 70) (cons (loc 83) nil)) (tname 83) (mkList (cons (cst (.int 1)) (cons (cst (.int 2)) (cons (cst (.int 3)) (cons (cst (.int 4)) nil)))))))
noncomputable def f__law_tries_right : MF := fn [109, 153, 6, 66] [] (sq (asg (ttupR [(tname 60), (tname 75)]) (mkTup (cons (callF f__law_open (cons (callC 8 f_Limits___init__ (cons (cst (.int 256)) (cons (cst (.int 4)) (cons (cst (.int 40)) (cons (cst (.int 16)) (cons (cst (.int 6)) (cons (cst (.int 4)) (cons (cst (.int 99)) (cons (loc 6) (cons (cst (.int 2)) (cons (cst (.int 12)) nil))))))))))) nil)) (cons (bin addV (cst (.int 3)) (cst (.int 6))) nil)))) (sq (expr (callF f_send (cons (loc 75) (cons (callB b_bytes (cons (callB b_range (cons (cst (.int 65)) (cons (bin addV (cst (.int 65)) (loc 109)) nil))) nil)) (cons (cst (.int 3)) nil))))) (sq (ite (truth (loc 153)) (expr (callF f_close (cons (loc 75) (cons (cst (.int 3)) nil)))) done) (sq (asg (tname 116) (ifx (truth (loc 153)) (bin addV (loc 109) (cst (.int 1))) (bin subV (loc 109) (bin modV (loc 109) (cst (.int 4)))))) (sq (asg (tname 155) (bin addV (cst (.int 4)) (callB b_int (cons (val (andB (truth (loc 153)) (rel eqV (loc 109) (cst (.int 4))))) nil)))) (sq (for_ (tname 138) (callB b_range (cons (loc 6) nil)) (sq (asg (tattr 50 (attr 19 (loc 75) 56) 52) (cst (.int 3))) (sq (ite (orB (notB (rel eqV (meth 2 116 f_Sender_flight (attr 19 (loc 75) 37) nil) (loc 116))) (orB (notB (rel eqV (meth 63 132 f_Wheel_time_of (attr 19 (loc 75) 70) (cons (cst (.int 1)) nil)) (loc 60))) (notB (rel eqV (callF f_on_time (cons (loc 75) (cons (bin subV (loc 60) (cst (.int 1))) nil))) (mkList nil))))) (ret (cst .ff)) done) (sq (asg (tname 77) (comp noLo (mkTup (cons (attr 106 (loc 169) 103) (cons (attr 106 (loc 169) 104) (cons (attr 106 (loc 169) 80) nil)))) (tname 169) (callF f_on_time (cons (loc 75) (cons (bin addV (loc 60) (loc 66)) nil))))) (sq (ite (notB (rel eqV (loc 77) (mkList (cons (mkTup (cons (cst (.int 251)) (cons (callB b_bytes (cons (callB b_range (cons (cst (.int 65)) (cons (cst (.int 69)) nil))) nil)) (cons (bin subV (bin addV (cst (.int 24)) (loc 155)) (cst (.int 4))) nil)))) nil)))) (ret (cst .ff)) done) (sq (ite (notB (rel eqV (mkList (cons (attr 50 (attr 19 (loc 75) 56) 52) (cons (attr 50 (attr 19 (loc 75) 56) 51) (cons (attr 50 (attr 19 (loc 75) 56) 5) nil)))) (mkList (cons (cst (.int 0)) (cons (callB b_max (cons (cst (.int 8)) (cons (bin fdvV (loc 116) (cst (.int 2))) nil))) (cons (cst (.int 4)) nil)))))) (ret (cst .ff)) done) (asg (ttupR [(tname 60), (tname 116)]) (mkTup (cons (loc 155) (cons (bin addV (bin addV (loc 60) (loc 66)) (callB b_min (cons (bin mulV (cst (.int 6)) (bin powV (cst (.int 2)) (bin addV (loc 138) (cst (.int 1))))) (cons (cst (.int 99)) nil)))) nil)))))))))) (sq (for_ (tname 83) (mkList (cons (cst (.int 2)) (cons (cst (.int 3)) (cons (cst (.int 4)) nil)))) (expr (meth 63 141 f_Wheel_put (attr 19 (loc 75) 70) (cons (loc 83) (cons (cst (.int 9999)) nil))))) (sq (ite (orB (notB (rel eqV (meth 63 132 f_Wheel_time_of (attr 19 (loc 75) 70) (cons (cst (.int 1)) nil)) (loc 60))) (orB (notB (rel eqV (callF f_on_time (cons (loc 75) (cons (bin subV (loc 60) (cst (.int 1))) nil))) (mkList nil))) (notB (rel eqV (callF f_on_time (cons (loc 75) (cons (loc 60) nil))) (mkList nil))))) (ret (cst .ff)) done) (ret (val (andB (rel eqV (mkList (cons (attr 19 (loc 75) 22) (cons (attr 19 (loc 75) 71) nil))) (mkList (cons (cst (.str 1)) (cons (cst (.str 24)) nil)))) (rel eqV (callF f__law_times (cons (loc 75) nil)) (bin mulV (mkList (cons (cst .none) nil)) (cst (.int 4)))))))))))))))
noncomputable def f_Assembly___init__ : MF := fn [1, 7] [] (sq (asg (tattr 171 (loc 1) 7) (loc 7)) (asg (tattr 171 (loc 1) 172) (mkList nil)))
noncomputable def f_Receiver___init__ : MF := fn [1, 170, 7, 30, 9] [(.int 1)] (sq (asg (tattr 81 (loc 1) 7) (loc 7)) (sq (asg (tattr 81 (loc 1) 30) (loc 30)) (sq (asg (tattr 81 (loc 1) 9) (loc 9)) (sq (asg (tattr 81 (loc 1) 25) (callF f_plus (cons (loc 170) (cons (cst (.int 1)) (cons (loc 7) nil))))) (sq (asg (tattr 81 (loc 1) 93) (callB b_bytearray nil)) (sq (asg (tattr 81 (loc 1) 173) (callC 171 f_Assembly___init__ (cons (loc 7) nil))) (sq (asg (tattr 81 (loc 1) 92) (callF f_plus (cons (attr 81 (loc 1) 25) (cons (loc 30) (cons (loc 7) nil))))) (sq (asg (tattr 81 (loc 1) 174) (cst .none)) (sq (asg (tattr 81 (loc 1) 98) (cst .ff)) (asg (tattr 81 (loc 1) 175) (cst .none)))))))))))
noncomputable def f_is_at_most : MF := fn [94, 96, 7] [] (ret (val (orB (rel eqV (loc 94) (loc 96)) (truth (callF f_is_before (cons (loc 94) (cons (loc 96) (cons (loc 7) nil))))))))
noncomputable def f_Receiver_let_in : MF := fn [1, 103, 124] [] (sq (ite (notB (truth (callF f_is_before (cons (loc 103) (cons (attr 81 (loc 1) 92) (cons (attr 81 (loc 1) 7) nil)))))) (ret (ifx (notB (rel eqV (loc 124) (cst (.bytes [])))) (cst (.bytes [])) (loc 124))) done) (sq (asg (tname 27) (callF f_distance (cons (loc 103) (cons (attr 81 (loc 1) 92) (cons (attr 81 (loc 1) 7) nil))))) (ret (callB b_bytes (cons (slc (loc 124) (cst .none) (loc 27)) nil)))))
noncomputable def f_Assembly_offset : MF := fn [1, 103, 25] [] (sq (ite (truth (callF f_is_before (cons (loc 103) (cons (loc 25) (cons (attr 171 (loc 1) 7) nil))))) (ret (bin subV (cst (.int 0)) (callF f_distance (cons (loc 103) (cons (loc 25) (cons (attr 171 (loc 1) 7) nil)))))) done) (ret (callF f_distance (cons (loc 25) (cons (loc 103) (cons (attr 171 (loc 1) 7) nil))))))
noncomputable def f_Assembly_cut_behind : MF := fn [1, 179, 25] [] (sq (asg (tname 27) (meth 171 180 f_Assembly_offset (loc 1) (cons (loc 179) (cons (loc 25) nil)))) (sq (asg (tname 77) (mkList nil)) (sq (forL (ttup [(tname 103), (tname 124)]) (attr 171 (loc 1) 172) (sq (asg (tname 181) (slc (loc 124) (cst .none) (callB b_max (cons (cst (.int 0)) (cons (bin subV (loc 27) (meth 171 180 f_Assembly_offset (loc 1) (cons (loc 103) (cons (loc 25) nil)))) nil))))) (ite (notB (rel eqV (loc 181) (cst (.bytes [])))) (expr (bmeth 1 m_append (loc 77) (cons (mkTup (cons (loc 103) (cons (loc 181) nil))) nil))) done))) (asg (tattr 171 (loc 1) 172) (loc 77)))))
noncomputable def f_Receiver_note_fin : MF := fn [1, 64] [] (ite (andB (isNone (attr 81 (loc 1) 174)) (notB (truth (callF f_is_before (cons (loc 64) (cons (attr 81 (loc 1) 25) (cons (attr 81 (loc 1) 7) nil))))))) (sq (asg (tattr 81 (loc 1) 174) (loc 64)) (expr (meth 171 182 f_Assembly_cut_behind (attr 81 (loc 1) 173) (cons (loc 64) (cons (attr 81 (loc 1) 25) nil))))) done)
noncomputable def f_Receiver_ahead_of_fin : MF := fn [1, 103, 124] [] (sq (ite (notB (truth (callF f_is_before (cons (loc 103) (cons (attr 81 (loc 1) 174) (cons (attr 81 (loc 1) 7) nil)))))) (ret (cst (.bytes []))) done) (ret (slc (loc 124) (cst .none) (callF f_distance (cons (loc 103) (cons (attr 81 (loc 1) 174) (cons (attr 81 (loc 1) 7) nil)))))))
noncomputable def f_Assembly_forget : MF := fn [1, 25] [] (whl (notB (rel eqV (attr 171 (loc 1) 172) (mkList nil))) (sq (asg (ttup [(tname 103), (tname 124)]) (bin idxV (attr 171 (loc 1) 172) (cst (.int 0)))) (sq (asg (tname 185) (meth 171 180 f_Assembly_offset (loc 1) (cons (loc 103) (cons (loc 25) nil)))) (sq (ite (rel (irel geb) (loc 185) (cst (.int 0))) (ret (cst .none)) done) (sq (ite (rel (irel gtb) (bin addV (loc 185) (callB b_len (cons (loc 124) nil))) (cst (.int 0))) (sq (asg (tsub (attr 171 (loc 1) 172) (cst (.int 0))) (mkTup (cons (loc 25) (cons (slc (loc 124) (bin subV (cst (.int 0)) (loc 185)) (cst .none)) nil)))) (ret (cst .none))) done) (expr (bmeth 1 m_pop (attr 171 (loc 1) 172) (cons (cst (.int 0)) nil))))))))
noncomputable def f_Assembly_missing : MF := fn [1, 185, 124, 25] [] (sq (asg (tname 131) (bin addV (loc 185) (callB b_len (cons (loc 124) nil)))) (sq (asg (ttupR [(tname 122), (tname 77)]) (mkTup (cons (mkList nil) (cons (loc 185) nil)))) (sq (forL (ttup [(tname 103), (tname 178)]) (attr 171 (loc 1) 172) (sq (asg (tname 39) (meth 171 180 f_Assembly_offset (loc 1) (cons (loc 103) (cons (loc 25) nil)))) (sq (asg (tname 186) (bin addV (loc 39) (callB b_len (cons (loc 178) nil)))) (sq (ite (rel (irel leb) (loc 186) (loc 122)) cont done) (sq (ite (rel (irel geb) (loc 39) (loc 131)) brk done) (sq (ite (rel (irel gtb) (loc 39) (loc 122)) (expr (bmeth 1 m_append (loc 77) (cons (mkTup (cons (loc 122) (cons (slc (loc 124) (bin subV (loc 122) (loc 185)) (bin subV (loc 39) (loc 185))) nil))) nil))) done) (asg (tname 122) (loc 186)))))))) (sq (ite (rel (irel ltb) (loc 122) (loc 131)) (expr (bmeth 1 m_append (loc 77) (cons (mkTup (cons (loc 122) (cons (slc (loc 124) (bin subV (loc 122) (loc 185)) (cst .none)) nil))) nil))) done) (ret (loc 77))))))
noncomputable def f_Assembly_joined : MF := fn [1, 129, 25] [] (sq (asg (ttupR [(tname 131), (tname 77)]) (mkTup (cons (mkList nil) (cons (cst .none) nil)))) (sq (forL (ttup [(tname 39), (tname 124)]) (loc 129) (sq (ite (rel eqV (loc 131) (loc 39)) (sq (asg (ttup [(tname 103), (tname 115)]) (bin idxV (loc 77) (neg (cst (.int 1))))) (asg (tsub (loc 77) (neg (cst (.int 1)))) (mkTup (cons (loc 103) (cons (bin addV (loc 115) (loc 124)) nil))))) (expr (bmeth 1 m_append (loc 77) (cons (mkTup (cons (callF f_plus (cons (loc 25) (cons (loc 39) (cons (attr 171 (loc 1) 7) nil)))) (cons (loc 124) nil))) nil)))) (asg (tname 131) (bin addV (loc 39) (callB b_len (cons (loc 124) nil)))))) (ret (loc 77))))
noncomputable def f_Assembly_merged : MF := fn [1, 188, 25] [] (sq (asg (ttupR [(tname 189), (tname 77)]) (mkTup (cons (mkList nil) (cons (callB b_list (cons (loc 188) nil)) nil)))) (sq (forL (ttup [(tname 103), (tname 178)]) (attr 171 (loc 1) 172) (sq (asg (tname 39) (meth 171 180 f_Assembly_offset (loc 1) (cons (loc 103) (cons (loc 25) nil)))) (sq (whl (andB (notB (rel eqV (loc 189) (mkList nil))) (rel (irel ltb) (bin idxV (bin idxV (loc 189) (cst (.int 0))) (cst (.int 0))) (loc 39))) (expr (bmeth 1 m_append (loc 77) (cons (bmeth 1 m_pop (loc 189) (cons (cst (.int 0)) nil)) nil)))) (expr (bmeth 1 m_append (loc 77) (cons (mkTup (cons (loc 39) (cons (loc 178) nil))) nil)))))) (ret (bin addV (loc 77) (loc 189)))))
noncomputable def f_Assembly_put : MF := fn [1, 103, 124, 25] [] (sq (expr (meth 171 162 f_Assembly_forget (loc 1) (cons (loc 25) nil))) (sq (asg (tname 185) (meth 171 180 f_Assembly_offset (loc 1) (cons (loc 103) (cons (loc 25) nil)))) (sq (ite (rel (irel ltb) (loc 185) (cst (.int 0))) (sq (asg (tname 124) (slc (loc 124) (bin subV (cst (.int 0)) (loc 185)) (cst .none))) (asg (tname 185) (cst (.int 0)))) done) (sq (asg (tname 188) (meth 171 187 f_Assembly_missing (loc 1) (cons (loc 185) (cons (loc 124) (cons (loc 25) nil))))) (ite (notB (rel eqV (loc 188) (mkList nil))) (asg (tattr 171 (loc 1) 172) (meth 171 191 f_Assembly_joined (loc 1) (cons (meth 171 190 f_Assembly_merged (loc 1) (cons (loc 188) (cons (loc 25) nil))) (cons (loc 25) nil)))) done)))))
noncomputable def f_Assembly_take : MF := fn [1, 25] [] (sq (expr (meth 171 162 f_Assembly_forget (loc 1) (cons (loc 25) nil))) (sq (ite (orB (rel eqV (attr 171 (loc 1) 172) (mkList nil)) (notB (rel eqV (bin idxV (bin idxV (attr 171 (loc 1) 172) (cst (.int 0))) (cst (.int 0))) (loc 25)))) (ret (cst (.bytes []))) done) (ret (bin idxV (bmeth 1 m_pop (attr 171 (loc 1) 172) (cons (cst (.int 0)) nil)) (cst (.int 1))))))
noncomputable def f_Receiver_gather : MF := fn [1] [] (sq (asg (tname 188) (cst (.bytes []))) (sq (ite (notB (truth (attr 81 (loc 1) 98))) (asg (tname 188) (meth 171 149 f_Assembly_take (attr 81 (loc 1) 173) (cons (attr 81 (loc 1) 25) nil))) done) (sq (expr (bmeth 4 m_extendB (attr 81 (loc 1) 93) (cons (loc 188) nil))) (sq (asg (tattr 81 (loc 1) 25) (callF f_plus (cons (attr 81 (loc 1) 25) (cons (callB b_len (cons (loc 188) nil)) (cons (attr 81 (loc 1) 7) nil))))) (sq (ite (andB (rel eqV (attr 81 (loc 1) 174) (attr 81 (loc 1) 25)) (notB (truth (attr 81 (loc 1) 98)))) (sq (asg (tattr 81 (loc 1) 98) (cst .tt)) (asg (tattr 81 (loc 1) 25) (callF f_plus (cons (attr 81 (loc 1) 25) (cons (cst (.int 1)) (cons (attr 81 (loc 1) 7) nil)))))) done) (ret (callB b_len (cons (loc 188) nil))))))))
noncomputable def f_Receiver_arrive : MF := fn [1, 103, 124, 98] [] (sq (asg (tname 176) (callF f_is_at_most (cons (loc 103) (cons (attr 81 (loc 1) 25) (cons (attr 81 (loc 1) 7) nil))))) (sq (asg (tname 178) (meth 81 177 f_Receiver_let_in (loc 1) (cons (loc 103) (cons (loc 124) nil)))) (sq (ite (andB (truth (loc 98)) (rel eqV (callB b_len (cons (loc 178) nil)) (callB b_len (cons (loc 124) nil)))) (expr (meth 81 183 f_Receiver_note_fin (loc 1) (cons (callF f_plus (cons (loc 103) (cons (callB b_len (cons (loc 124) nil)) (cons (attr 81 (loc 1) 7) nil)))) nil))) done) (sq (ite (notB (isNone (attr 81 (loc 1) 174))) (asg (tname 178) (meth 81 184 f_Receiver_ahead_of_fin (loc 1) (cons (loc 103) (cons (loc 178) nil)))) done) (sq (ite (andB (notB (truth (attr 81 (loc 1) 98))) (notB (rel eqV (loc 178) (cst (.bytes []))))) (expr (meth 171 141 f_Assembly_put (attr 81 (loc 1) 173) (cons (loc 103) (cons (loc 178) (cons (attr 81 (loc 1) 25) nil))))) done) (sq (asg (tname 188) (meth 81 192 f_Receiver_gather (loc 1) nil)) (ret (mkTup (cons (loc 188) (cons (loc 176) nil))))))))))
noncomputable def f__law_made : MF := fn [22, 64, 23] [] (sq (asg (tname 75) (callC 19 f_Tcb___init__ (cons (callC 8 f_Limits___init__ (cons (cst (.int 256)) (cons (cst (.int 4)) (cons (cst (.int 24)) (cons (cst (.int 16)) (cons (cst (.int 6)) (cons (cst (.int 4)) (cons (cst (.int 24)) (cons (cst (.int 3)) (cons (cst (.int 2)) (cons (cst (.int 13)) nil))))))))))) (cons (mkTup (cons (cst (.int 1)) (cons (cst (.int 10)) nil))) (cons (mkTup (cons (cst (.int 2)) (cons (cst (.int 20)) nil))) (cons (loc 23) nil)))))) (sq (asg (tattr 19 (loc 75) 22) (loc 22)) (sq (expr (meth 2 110 f_Sender_go_on (attr 19 (loc 75) 37) (cons (cst (.int 3)) nil))) (sq (expr (meth 2 161 f_Sender_back_to (attr 19 (loc 75) 37) (cons (bin modV (bin addV (loc 23) (cst (.int 2))) (cst (.int 256))) nil))) (sq (ite (notB (isNone (loc 64))) (sq (asg (tattr 19 (loc 75) 38) (callC 81 f_Receiver___init__ (cons (loc 64) (cons (cst (.int 256)) (cons (cst (.int 16)) (cons (cst (.int 4)) nil)))))) (expr (meth 81 193 f_Receiver_arrive (attr 19 (loc 75) 38) (cons (bin modV (bin addV (loc 64) (cst (.int 1))) (cst (.int 256))) (cons (cst (.bytes [97,98,99])) (cons (cst .ff) nil)))))) done) (sq (for_ (tname 83) (mkList (cons (cst (.int 1)) (cons (cst (.int 2)) (cons (cst (.int 3)) (cons (cst (.int 4)) nil))))) (expr (meth 63 141 f_Wheel_put (attr 19 (loc 75) 70) (cons (loc 83) (cons (bin addV (cst (.int 30)) (loc 83)) nil))))) (ret (loc 75))))))))
noncomputable def f_Segment_row : MF := fn [1] [] (sq (asg (tname 195) (mkTup (cons (attr 106 (loc 1) 105) (cons (attr 106 (loc 1) 107) (cons (attr 106 (loc 1) 103) (cons (attr 106 (loc 1) 79) (cons (attr 106 (loc 1) 80) (cons (attr 106 (loc 1) 101) (cons (attr 106 (loc 1) 108) nil))))))))) (ret (bin addV (loc 195) (mkTup (cons (callB b_bytes (cons (attr 106 (loc 1) 91) nil)) (cons (callB b_bytes (cons (attr 106 (loc 1) 104) nil)) nil))))))
noncomputable def f_abort : MF := fn [75, 78] [] (sq (ite (isNone (callF f_follow (cons (attr 19 (loc 75) 22) (cons (cst (.str 22)) nil)))) bad done) (sq (asg (tname 77) (mkList nil)) (sq (ite (notB (rel inV (attr 19 (loc 75) 22) (mkTup (cons (cst (.str 3)) (cons (cst (.str 4)) (cons (cst (.str 15)) (cons (cst (.str 13)) (cons (cst (.str 17)) nil)))))))) (expr (bmeth 1 m_append (loc 77) (cons (meth 19 112 f_Tcb_make (loc 75) (cons (cst (.int 4)) (cons (attr 2 (attr 19 (loc 75) 37) 25) nil))) nil))) done) (sq (expr (callF f_closed (cons (loc 75) (cons (cst .none) nil)))) (ret (loc 77))))))
noncomputable def f__law_given_up_right : MF := fn [22, 64, 23] [] (sq (asg (tname 75) (callF f__law_made (cons (loc 22) (cons (loc 64) (cons (loc 23) nil))))) (sq (asg (tname 194) (mkList (cons (mkTup (cons (cst (.int 10)) (cons (cst (.int 20)) (cons (bin modV (bin addV (loc 23) (cst (.int 2))) (cst (.int 256))) (cons (cst (.int 0)) (cons (cst (.int 4)) (cons (cst (.int 16)) (cons (cst (.int 0)) (cons (cst (.bytes [])) (cons (cst (.bytes [])) nil)))))))))) nil))) (sq (ite (notB (isNone (loc 64))) (asg (tname 194) (mkList (cons (mkTup (cons (cst (.int 10)) (cons (cst (.int 20)) (cons (bin modV (bin addV (loc 23) (cst (.int 2))) (cst (.int 256))) (cons (bin modV (bin addV (loc 64) (cst (.int 4))) (cst (.int 256))) (cons (cst (.int 20)) (cons (cst (.int 13)) (cons (cst (.int 0)) (cons (cst (.bytes [])) (cons (cst (.bytes [])) nil)))))))))) nil))) done) (sq (ite (notB (rel eqV (comp noLo (meth 106 197 f_Segment_row (loc 196) nil) (tname 196) (callF f_abort (cons (loc 75) (cons (cst (.int 7)) nil)))) (loc 194))) (ret (cst .ff)) done) (ret (val (andB (rel eqV (mkList (cons (attr 19 (loc 75) 22) (cons (attr 19 (loc 75) 71) nil))) (mkList (cons (cst (.str 1)) (cons (cst .none) nil)))) (rel eqV (callF f__law_times (cons (loc 75) nil)) (bin mulV (mkList (cons (cst .none) nil)) (cst (.int 4)))))))))))
noncomputable def f_enter_time_wait : MF := fn [75, 78] [] (sq (asg (tattr 19 (loc 75) 22) (cst (.str 17))) (sq (for_ (tname 83) (mkTup (cons (cst (.int 1)) (cons (cst (.int 2)) nil))) (expr (meth 63 87 f_Wheel_cancel (attr 19 (loc 75) 70) (cons (loc 83) nil)))) (expr (meth 63 141 f_Wheel_put (attr 19 (loc 75) 70) (cons (cst (.int 4)) (cons (bin addV (loc 78) (attr 8 (attr 19 (loc 75) 18) 17)) nil))))))
noncomputable def f__law_waits_right : MF := fn [64, 23, 78] [] (sq (asg (tname 75) (callF f__law_made (cons (cst (.str 16)) (cons (loc 64) (cons (loc 23) nil))))) (sq (expr (callF f_enter_time_wait (cons (loc 75) (cons (loc 78) nil)))) (sq (ite (notB (rel eqV (bin addV (mkList (cons (attr 19 (loc 75) 22) nil)) (callF f__law_times (cons (loc 75) nil))) (mkList (cons (cst (.str 17)) (cons (cst .none) (cons (cst .none) (cons (cst (.int 33)) (cons (bin addV (loc 78) (cst (.int 13))) nil)))))))) (ret (cst .ff)) done) (sq (expr (callF f_closed (cons (loc 75) (cons (cst (.str 21)) nil)))) (ret (val (andB (rel eqV (mkList (cons (attr 19 (loc 75) 22) (cons (attr 19 (loc 75) 71) nil))) (mkList (cons (cst (.str 1)) (cons (cst (.str 21)) nil)))) (rel eqV (callF f__law_times (cons (loc 75) nil)) (bin mulV (mkList (cons (cst .none) nil)) (cst (.int 4)))))))))))
noncomputable def f__law_take : MF := fn [198, 199] [] (sq (ite (rel (irel gtb) (bin idxV (loc 198) (cst (.int 0))) (cst (.int 0))) (sq (asg (tname 200) (bin modV (bin idxV (loc 198) (cst (.int 0))) (loc 199))) (sq (asg (tsub (loc 198) (cst (.int 0))) (bin fdvV (bin idxV (loc 198) (cst (.int 0))) (loc 199))) (ret (loc 200)))) done) (sq (asg (tsub (loc 198) (cst (.int 1))) (bin modV (bin addV (bin mulV (bin idxV (loc 198) (cst (.int 1))) (cst (.int 39373))) (cst (.int 7))) (cst (.int 2147483647)))) (ret (bin modV (bin fdvV (bin modV (bin mulV (bin idxV (loc 198) (cst (.int 1))) (bin idxV (loc 198) (cst (.int 1)))) (cst (.int 2147483629))) (cst (.int 32))) (loc 199)))))
noncomputable def f__law_one : MF := fn [198, 201] [] (ret (bin idxV (loc 201) (callF f__law_take (cons (loc 198) (cons (callB b_len (cons (loc 201) nil)) nil)))))
end Mine
end
section
open PySem PySem.W PySem.Calls PyProof.Rows
namespace Mine
noncomputable def nmTab : List Str := [.ofString "", .ofString "self", .ofString "Sender", .ofString "peer", .ofString "PeerWindow", .ofString "size", .ofString "tries", .ofString "ring", .ofString "Limits", .ofString "mss", .ofString "send_room", .ofString "receive_room", .ofString "first_timeout", .ofString "least_timeout", .ofString "most_timeout", .ofString "most_tries", .ofString "ack_delay", .ofString "time_wait", .ofString "limits", .ofString "Tcb", .ofString "local", .ofString "remote", .ofString "state", .ofString "iss", .ofString "una", .ofString "next", .ofString "greatest", .ofString "most", .ofString "told_seq", .ofString "told_ack", .ofString "room", .ofString "SendQueue", .ofString "held", .ofString "queue", .ofString "syn_pending", .ofString "fin_asked", .ofString "fin_sent", .ofString "sender", .ofString "receiver", .ofString "first", .ofString "RttEstimate", .ofString "least", .ofString "mean8", .ofString "spread4", .ofString "measured", .ofString "estimate", .ofString "RetransmitClock", .ofString "timed_end", .ofString "timed_at", .ofString "clock", .ofString "Congestion", .ofString "threshold", .ofString "gathered", .ofString "duplicates", .ofString "is_recovering", .ofString "is_cautious", .ofString "congestion", .ofString "delay", .ofString "AckPolicy", .ofString "waiting", .ofString "due", .ofString "has_gap", .ofString "acks", .ofString "Wheel", .ofString "place", .ofString "slots", .ofString "late", .ofString "entries", .ofString "reached", .ofString "given", .ofString "wheel", .ofString "error", .ofString "probes", .ofString "unanswered", .ofString "is_nagle", .ofString "tcb", .ofString "event", .ofString "found", .ofString "now", .ofString "ack", .ofString "flags", .ofString "Receiver", .ofString "on_sent", .ofString "key", .ofString "time", .ofString "order", .ofString "keys", .ofString "cancel", .ofString "n", .ofString "number", .ofString "bits", .ofString "options", .ofString "told_edge", .ofString "ready", .ofString "a", .ofString "free_edge", .ofString "b", .ofString "gap", .ofString "has_fin", .ofString "should_tell", .ofString "told_window", .ofString "window", .ofString "window_now", .ofString "seq", .ofString "payload", .ofString "source_port", .ofString "Segment", .ofString "target_port", .ofString "urgent", .ofString "many", .ofString "go_on", .ofString "start", .ofString "make", .ofString "seq_end", .ofString "sent", .ofString "ahead", .ofString "flight", .ofString "data_sent", .ofString "unsent", .ofString "congestion_window", .ofString "usable", .ofString "may_go", .ofString "at", .ofString "part", .ofString "octets", .ofString "is_last", .ofString "piece_of", .ofString "is_fin_acked", .ofString "is_fin_due", .ofString "pieces", .ofString "has_push", .ofString "end", .ofString "time_of", .ofString "list_of", .ofString "ticks", .ofString "plain_timeout", .ofString "bounded", .ofString "timeout", .ofString "turn", .ofString "waited", .ofString "deadline", .ofString "put", .ofString "is_idle_with_more", .ofString "needs_probe", .ofString "ever_sent", .ofString "is_syn", .ofString "drop", .ofString "acked", .ofString "is_newer", .ofString "take", .ofString "take_window", .ofString "room_left", .ofString "taken", .ofString "is_closing", .ofString "ask_fin", .ofString "again", .ofString "keys_until", .ofString "half", .ofString "halved", .ofString "timed_out", .ofString "back_off", .ofString "back_to", .ofString "forget", .ofString "reach", .ofString "first_piece", .ofString "has_syn", .ofString "probe", .ofString "piece", .ofString "due_time", .ofString "one", .ofString "irs", .ofString "Assembly", .ofString "parts", .ofString "assembly", .ofString "fin_at", .ofString "urgent_at", .ofString "is_in_order", .ofString "let_in", .ofString "kept", .ofString "edge", .ofString "offset", .ofString "left", .ofString "cut_behind", .ofString "note_fin", .ofString "ahead_of_fin", .ofString "begin", .ofString "last", .ofString "missing", .ofString "fresh", .ofString "rest", .ofString "merged", .ofString "joined", .ofString "gather", .ofString "arrive", .ofString "rows", .ofString "numbers", .ofString "segment", .ofString "row", .ofString "source", .ofString "top", .ofString "drawn", .ofString "things", .ofString "cell", .ofString "great", .ofString "k", .ofString "mixed"]
noncomputable def stTab : List Str := [.ofString "", .ofString "closed", .ofString "connect", .ofString "listen", .ofString "syn sent", .ofString "syn", .ofString "syn received", .ofString "syn ack", .ofString "established", .ofString "ack of syn", .ofString "close", .ofString "fin wait 1", .ofString "close wait", .ofString "last ack", .ofString "fin", .ofString "closing", .ofString "fin wait 2", .ofString "time wait", .ofString "ack of fin", .ofString "fin and ack of fin", .ofString "time wait over", .ofString "reset", .ofString "abort", .ofString "timeout", .ofString "timed out"]
noncomputable def clsTab : List (Nat × Nat) := [(58, 177), (50, 261), (46, 338), (40, 394), (31, 450), (4, 485), (2, 676), (106, 726), (63, 842), (8, 863), (19, 906), (171, 1142), (81, 1276)]
noncomputable def nmOf (t : List Str) (i : Nat) : Str := (t[i]?).getD ⟨#[2000000 + i]⟩
noncomputable def lowOk (s : Str) : Bool := s.cps.toList.all fun c => Nat.blt c 2000000
theorem nmOf_inj {t : List Str} (hn : t.Nodup) (hl : t.all lowOk = true) : ∀ i j, nmOf t i = nmOf t j → i = j := by
  have key : ∀ {i j : Nat} {s : Str}, t[i]? = some s → s ≠ ⟨#[2000000 + j]⟩ := fun {i j s} hi q => by
    have := List.all_eq_true.mp hl s (List.mem_of_getElem? hi)
    rw [q] at this
    have h2 : Nat.blt (2000000 + j) 2000000 = true := by simpa [lowOk] using this
    have := Nat.le_of_ble_eq_true h2
    omega
  intro i j h
  unfold nmOf at h
  cases hi : t[i]? with
  | none =>
    cases hj : t[j]? with
    | none =>
      rw [hi, hj] at h
      simp only [Option.getD_none, Str.mk.injEq] at h
      have := congrArg Array.toList h
      simp at this
      exact this
    | some s => rw [hi, hj] at h; exact absurd h.symm (key hj)
  | some s =>
    cases hj : t[j]? with
    | none => rw [hi, hj] at h; exact absurd h (key hi)
    | some s' =>
      rw [hi, hj] at h
      simp only [Option.getD_some] at h
      subst h
      exact (List.getElem?_inj (List.getElem?_eq_some_iff.mp hi).1 hn).mp (hi.trans hj.symm)
theorem nmOf_len {t : List Str} (h : t.all (fun s => Nat.ble s.length 1000) = true) (i : Nat) : (nmOf t i).length ≤ 1000 := by
  unfold nmOf
  cases hi : t[i]? with
  | none => show 1 ≤ 1000; omega
  | some s => exact Nat.le_of_ble_eq_true (List.all_eq_true.mp h s (List.mem_of_getElem? hi))
noncomputable def clsOf (c : Nat) : Nat := (clsTab.lookup c).getD 0
structure Ev where
  w : World
  h₀ : Heap
  FIn : (KF w.params).In h₀
  lim : h₀.NoLimit
  sys : (h₀.get? sysModules).isSome = true
theorem nm_nodup : nmTab.Nodup := by decide +kernel
theorem st_nodup : stTab.Nodup := by decide +kernel
theorem nm_low : nmTab.all lowOk = true := by kernel_rfl
theorem st_low : stTab.all lowOk = true := by kernel_rfl
theorem st_len : stTab.all (fun s => Nat.ble s.length 1000) = true := by kernel_rfl
noncomputable def XX (e : Ev) : Cx := ⟨pw, e.w, e.h₀, KF e.w.params, nmOf nmTab, nmOf stTab, clsOf, 3, 0, nmOf_inj nm_nodup nm_low, nmOf_inj st_nodup st_low, nmOf_len st_len, e.FIn, e.lim, e.sys⟩
noncomputable abbrev NM (e : Ev) (i : Nat) (x : String) : Prop := (XX e).nm i = .ofString x
noncomputable abbrev FA (e : Ev) (c : Nat) (x : String) : Prop := findIn (XX e).F (.ref ((XX e).cls c)) (.ofString x) = some none
noncomputable abbrev TK (e : Ev) (c : Nat) (x : String) : Prop := takerIn (XX e).F ((XX e).cls c) (.ofString x) = some none
noncomputable abbrev FM (e : Ev) (c : Nat) (x : String) (a : Nat) : Prop := findIn (XX e).F (.ref ((XX e).cls c)) (.ofString x) = some (some (.ref a))
noncomputable abbrev TY (e : Ev) (a : Nat) : Prop := typeIn (XX e).F (.ref a) = some (.type "function")
noncomputable abbrev KP (e : Ev) (a : Nat) : Prop := keepIn (XX e).F (.ref a) = true
noncomputable abbrev GV (e : Ev) (x : String) (v : Value) : Prop := nsIn (XX e).F (XX e).G (.ofString x) = some (some v)
noncomputable abbrev Nk (k : NameKind) (sc : List (Str × NameKind)) (x : Str) : Prop := (decide (sc.lookup x = some k) && !(x == ("__debug__" : Str))) = true
noncomputable abbrev Lo (f : FuncData) (x : String) : Prop := Nk .local f.scope.names (.ofString x)
noncomputable abbrev Gl (f : FuncData) (x : String) : Prop := Nk .globalImplicit f.scope.names (.ofString x)
theorem Nk.l {k : NameKind} {sc : List (Str × NameKind)} {x : Str} (h : Nk k sc x) : sc.lookup x = some k := of_decide_eq_true (Bool.and_eq_true_iff.mp h).1
theorem Nk.d {k : NameKind} {sc : List (Str × NameKind)} {x : Str} (h : Nk k sc x) : (x == ("__debug__" : Str)) = false := by simpa using (Bool.and_eq_true_iff.mp h).2
theorem n_1 {e} : NM e 1 "self" := by kernel_rfl
theorem c_Sender {e : Ev} : ClsOk (XX e) 2 := ⟨⟨_, (by kernel_rfl : clsIn (XX e).F ((XX e).cls 2) = some cd_676), rfl⟩, by kernel_rfl, by kernel_rfl, by kernel_rfl, by kernel_rfl⟩
theorem n_3 {e} : NM e 3 "peer" := by kernel_rfl
theorem fa_Sender_peer {e} : FA e 2 "peer" := by kernel_rfl
theorem c_PeerWindow {e : Ev} : ClsOk (XX e) 4 := ⟨⟨_, (by kernel_rfl : clsIn (XX e).F ((XX e).cls 4) = some cd_485), rfl⟩, by kernel_rfl, by kernel_rfl, by kernel_rfl, by kernel_rfl⟩
theorem n_5 {e} : NM e 5 "size" := by kernel_rfl
theorem fa_PeerWindow_size {e} : FA e 4 "size" := by kernel_rfl
theorem n_6 {e} : NM e 6 "tries" := by kernel_rfl
theorem n_7 {e} : NM e 7 "ring" := by kernel_rfl
theorem c_Limits {e : Ev} : ClsOk (XX e) 8 := ⟨⟨_, (by kernel_rfl : clsIn (XX e).F ((XX e).cls 8) = some cd_863), rfl⟩, by kernel_rfl, by kernel_rfl, by kernel_rfl, by kernel_rfl⟩
theorem tk_Limits_ring {e} : TK e 8 "ring" := by kernel_rfl
theorem n_9 {e} : NM e 9 "mss" := by kernel_rfl
theorem tk_Limits_mss {e} : TK e 8 "mss" := by kernel_rfl
theorem n_10 {e} : NM e 10 "send_room" := by kernel_rfl
theorem tk_Limits_send_room {e} : TK e 8 "send_room" := by kernel_rfl
theorem n_11 {e} : NM e 11 "receive_room" := by kernel_rfl
theorem tk_Limits_receive_room {e} : TK e 8 "receive_room" := by kernel_rfl
theorem n_12 {e} : NM e 12 "first_timeout" := by kernel_rfl
theorem tk_Limits_first_timeout {e} : TK e 8 "first_timeout" := by kernel_rfl
theorem n_13 {e} : NM e 13 "least_timeout" := by kernel_rfl
theorem tk_Limits_least_timeout {e} : TK e 8 "least_timeout" := by kernel_rfl
theorem n_14 {e} : NM e 14 "most_timeout" := by kernel_rfl
theorem tk_Limits_most_timeout {e} : TK e 8 "most_timeout" := by kernel_rfl
theorem n_15 {e} : NM e 15 "most_tries" := by kernel_rfl
theorem tk_Limits_most_tries {e} : TK e 8 "most_tries" := by kernel_rfl
theorem n_16 {e} : NM e 16 "ack_delay" := by kernel_rfl
theorem tk_Limits_ack_delay {e} : TK e 8 "ack_delay" := by kernel_rfl
theorem n_17 {e} : NM e 17 "time_wait" := by kernel_rfl
theorem tk_Limits_time_wait {e} : TK e 8 "time_wait" := by kernel_rfl
theorem g_Limits {e} : GV e "Limits" (.ref ((XX e).cls 8)) := by kernel_rfl
theorem kc_Limits {e} : keepIn (XX e).F (.ref ((XX e).cls 8)) = true := by kernel_rfl
theorem mk_Limits {e} : makesIn (XX e).F ((XX e).cls 8) = true := by kernel_rfl
theorem fm_Limits___init__ {e} : FM e 8 "__init__" 860 := by kernel_rfl
theorem ty_860 {e} : TY e 860 := by kernel_rfl
theorem n_18 {e} : NM e 18 "limits" := by kernel_rfl
theorem c_Tcb {e : Ev} : ClsOk (XX e) 19 := ⟨⟨_, (by kernel_rfl : clsIn (XX e).F ((XX e).cls 19) = some cd_906), rfl⟩, by kernel_rfl, by kernel_rfl, by kernel_rfl, by kernel_rfl⟩
theorem tk_Tcb_limits {e} : TK e 19 "limits" := by kernel_rfl
theorem n_20 {e} : NM e 20 "local" := by kernel_rfl
theorem tk_Tcb_local {e} : TK e 19 "local" := by kernel_rfl
theorem n_21 {e} : NM e 21 "remote" := by kernel_rfl
theorem tk_Tcb_remote {e} : TK e 19 "remote" := by kernel_rfl
theorem t_1 {e} : (XX e).st 1 = .ofString "closed" := by kernel_rfl
theorem g_CLOSED {e} : GV e "CLOSED" (.str (.ofString "closed") 1182) := by kernel_rfl
theorem n_22 {e} : NM e 22 "state" := by kernel_rfl
theorem tk_Tcb_state {e} : TK e 19 "state" := by kernel_rfl
theorem n_23 {e} : NM e 23 "iss" := by kernel_rfl
theorem fa_Limits_ring {e} : FA e 8 "ring" := by kernel_rfl
theorem fa_Limits_mss {e} : FA e 8 "mss" := by kernel_rfl
theorem fa_Limits_send_room {e} : FA e 8 "send_room" := by kernel_rfl
theorem tk_Sender_iss {e} : TK e 2 "iss" := by kernel_rfl
theorem tk_Sender_ring {e} : TK e 2 "ring" := by kernel_rfl
theorem tk_Sender_mss {e} : TK e 2 "mss" := by kernel_rfl
theorem n_24 {e} : NM e 24 "una" := by kernel_rfl
theorem tk_Sender_una {e} : TK e 2 "una" := by kernel_rfl
theorem n_25 {e} : NM e 25 "next" := by kernel_rfl
theorem tk_Sender_next {e} : TK e 2 "next" := by kernel_rfl
theorem n_26 {e} : NM e 26 "greatest" := by kernel_rfl
theorem tk_Sender_greatest {e} : TK e 2 "greatest" := by kernel_rfl
theorem tk_PeerWindow_ring {e} : TK e 4 "ring" := by kernel_rfl
theorem tk_PeerWindow_size {e} : TK e 4 "size" := by kernel_rfl
theorem n_27 {e} : NM e 27 "most" := by kernel_rfl
theorem tk_PeerWindow_most {e} : TK e 4 "most" := by kernel_rfl
theorem n_28 {e} : NM e 28 "told_seq" := by kernel_rfl
theorem tk_PeerWindow_told_seq {e} : TK e 4 "told_seq" := by kernel_rfl
theorem n_29 {e} : NM e 29 "told_ack" := by kernel_rfl
theorem tk_PeerWindow_told_ack {e} : TK e 4 "told_ack" := by kernel_rfl
theorem g_PeerWindow {e} : GV e "PeerWindow" (.ref ((XX e).cls 4)) := by kernel_rfl
theorem kc_PeerWindow {e} : keepIn (XX e).F (.ref ((XX e).cls 4)) = true := by kernel_rfl
theorem mk_PeerWindow {e} : makesIn (XX e).F ((XX e).cls 4) = true := by kernel_rfl
theorem fm_PeerWindow___init__ {e} : FM e 4 "__init__" 468 := by kernel_rfl
theorem ty_468 {e} : TY e 468 := by kernel_rfl
theorem tk_Sender_peer {e} : TK e 2 "peer" := by kernel_rfl
theorem n_30 {e} : NM e 30 "room" := by kernel_rfl
theorem c_SendQueue {e : Ev} : ClsOk (XX e) 31 := ⟨⟨_, (by kernel_rfl : clsIn (XX e).F ((XX e).cls 31) = some cd_450), rfl⟩, by kernel_rfl, by kernel_rfl, by kernel_rfl, by kernel_rfl⟩
theorem tk_SendQueue_room {e} : TK e 31 "room" := by kernel_rfl
theorem n_32 {e} : NM e 32 "held" := by kernel_rfl
theorem tk_SendQueue_held {e} : TK e 31 "held" := by kernel_rfl
theorem g_SendQueue {e} : GV e "SendQueue" (.ref ((XX e).cls 31)) := by kernel_rfl
theorem kc_SendQueue {e} : keepIn (XX e).F (.ref ((XX e).cls 31)) = true := by kernel_rfl
theorem mk_SendQueue {e} : makesIn (XX e).F ((XX e).cls 31) = true := by kernel_rfl
theorem fm_SendQueue___init__ {e} : FM e 31 "__init__" 412 := by kernel_rfl
theorem ty_412 {e} : TY e 412 := by kernel_rfl
theorem n_33 {e} : NM e 33 "queue" := by kernel_rfl
theorem tk_Sender_queue {e} : TK e 2 "queue" := by kernel_rfl
theorem n_34 {e} : NM e 34 "syn_pending" := by kernel_rfl
theorem tk_Sender_syn_pending {e} : TK e 2 "syn_pending" := by kernel_rfl
theorem n_35 {e} : NM e 35 "fin_asked" := by kernel_rfl
theorem tk_Sender_fin_asked {e} : TK e 2 "fin_asked" := by kernel_rfl
theorem n_36 {e} : NM e 36 "fin_sent" := by kernel_rfl
theorem tk_Sender_fin_sent {e} : TK e 2 "fin_sent" := by kernel_rfl
theorem g_Sender {e} : GV e "Sender" (.ref ((XX e).cls 2)) := by kernel_rfl
theorem kc_Sender {e} : keepIn (XX e).F (.ref ((XX e).cls 2)) = true := by kernel_rfl
theorem mk_Sender {e} : makesIn (XX e).F ((XX e).cls 2) = true := by kernel_rfl
theorem fm_Sender___init__ {e} : FM e 2 "__init__" 503 := by kernel_rfl
theorem ty_503 {e} : TY e 503 := by kernel_rfl
theorem n_37 {e} : NM e 37 "sender" := by kernel_rfl
theorem tk_Tcb_sender {e} : TK e 19 "sender" := by kernel_rfl
theorem n_38 {e} : NM e 38 "receiver" := by kernel_rfl
theorem tk_Tcb_receiver {e} : TK e 19 "receiver" := by kernel_rfl
theorem fa_Limits_first_timeout {e} : FA e 8 "first_timeout" := by kernel_rfl
theorem fa_Limits_least_timeout {e} : FA e 8 "least_timeout" := by kernel_rfl
theorem fa_Limits_most_timeout {e} : FA e 8 "most_timeout" := by kernel_rfl
theorem n_39 {e} : NM e 39 "first" := by kernel_rfl
theorem c_RttEstimate {e : Ev} : ClsOk (XX e) 40 := ⟨⟨_, (by kernel_rfl : clsIn (XX e).F ((XX e).cls 40) = some cd_394), rfl⟩, by kernel_rfl, by kernel_rfl, by kernel_rfl, by kernel_rfl⟩
theorem tk_RttEstimate_first {e} : TK e 40 "first" := by kernel_rfl
theorem n_41 {e} : NM e 41 "least" := by kernel_rfl
theorem tk_RttEstimate_least {e} : TK e 40 "least" := by kernel_rfl
theorem tk_RttEstimate_most {e} : TK e 40 "most" := by kernel_rfl
theorem n_42 {e} : NM e 42 "mean8" := by kernel_rfl
theorem tk_RttEstimate_mean8 {e} : TK e 40 "mean8" := by kernel_rfl
theorem n_43 {e} : NM e 43 "spread4" := by kernel_rfl
theorem tk_RttEstimate_spread4 {e} : TK e 40 "spread4" := by kernel_rfl
theorem n_44 {e} : NM e 44 "measured" := by kernel_rfl
theorem tk_RttEstimate_measured {e} : TK e 40 "measured" := by kernel_rfl
theorem g_RttEstimate {e} : GV e "RttEstimate" (.ref ((XX e).cls 40)) := by kernel_rfl
theorem kc_RttEstimate {e} : keepIn (XX e).F (.ref ((XX e).cls 40)) = true := by kernel_rfl
theorem mk_RttEstimate {e} : makesIn (XX e).F ((XX e).cls 40) = true := by kernel_rfl
theorem fm_RttEstimate___init__ {e} : FM e 40 "__init__" 356 := by kernel_rfl
theorem ty_356 {e} : TY e 356 := by kernel_rfl
theorem n_45 {e} : NM e 45 "estimate" := by kernel_rfl
theorem fa_Limits_most_tries {e} : FA e 8 "most_tries" := by kernel_rfl
theorem c_RetransmitClock {e : Ev} : ClsOk (XX e) 46 := ⟨⟨_, (by kernel_rfl : clsIn (XX e).F ((XX e).cls 46) = some cd_338), rfl⟩, by kernel_rfl, by kernel_rfl, by kernel_rfl, by kernel_rfl⟩
theorem tk_RetransmitClock_estimate {e} : TK e 46 "estimate" := by kernel_rfl
theorem tk_RetransmitClock_most_tries {e} : TK e 46 "most_tries" := by kernel_rfl
theorem tk_RetransmitClock_tries {e} : TK e 46 "tries" := by kernel_rfl
theorem n_47 {e} : NM e 47 "timed_end" := by kernel_rfl
theorem tk_RetransmitClock_timed_end {e} : TK e 46 "timed_end" := by kernel_rfl
theorem n_48 {e} : NM e 48 "timed_at" := by kernel_rfl
theorem tk_RetransmitClock_timed_at {e} : TK e 46 "timed_at" := by kernel_rfl
theorem g_RetransmitClock {e} : GV e "RetransmitClock" (.ref ((XX e).cls 46)) := by kernel_rfl
theorem kc_RetransmitClock {e} : keepIn (XX e).F (.ref ((XX e).cls 46)) = true := by kernel_rfl
theorem mk_RetransmitClock {e} : makesIn (XX e).F ((XX e).cls 46) = true := by kernel_rfl
theorem fm_RetransmitClock___init__ {e} : FM e 46 "__init__" 279 := by kernel_rfl
theorem ty_279 {e} : TY e 279 := by kernel_rfl
theorem g_clock_of {e} : GV e "clock_of" (.ref 874) := by kernel_rfl
theorem kp_874 {e} : KP e 874 := by kernel_rfl
theorem n_49 {e} : NM e 49 "clock" := by kernel_rfl
theorem tk_Tcb_clock {e} : TK e 19 "clock" := by kernel_rfl
theorem c_Congestion {e : Ev} : ClsOk (XX e) 50 := ⟨⟨_, (by kernel_rfl : clsIn (XX e).F ((XX e).cls 50) = some cd_261), rfl⟩, by kernel_rfl, by kernel_rfl, by kernel_rfl, by kernel_rfl⟩
theorem tk_Congestion_mss {e} : TK e 50 "mss" := by kernel_rfl
theorem tk_Congestion_most {e} : TK e 50 "most" := by kernel_rfl
theorem tk_Congestion_size {e} : TK e 50 "size" := by kernel_rfl
theorem n_51 {e} : NM e 51 "threshold" := by kernel_rfl
theorem tk_Congestion_threshold {e} : TK e 50 "threshold" := by kernel_rfl
theorem n_52 {e} : NM e 52 "gathered" := by kernel_rfl
theorem tk_Congestion_gathered {e} : TK e 50 "gathered" := by kernel_rfl
theorem n_53 {e} : NM e 53 "duplicates" := by kernel_rfl
theorem tk_Congestion_duplicates {e} : TK e 50 "duplicates" := by kernel_rfl
theorem n_54 {e} : NM e 54 "is_recovering" := by kernel_rfl
theorem tk_Congestion_is_recovering {e} : TK e 50 "is_recovering" := by kernel_rfl
theorem n_55 {e} : NM e 55 "is_cautious" := by kernel_rfl
theorem tk_Congestion_is_cautious {e} : TK e 50 "is_cautious" := by kernel_rfl
theorem g_Congestion {e} : GV e "Congestion" (.ref ((XX e).cls 50)) := by kernel_rfl
theorem kc_Congestion {e} : keepIn (XX e).F (.ref ((XX e).cls 50)) = true := by kernel_rfl
theorem mk_Congestion {e} : makesIn (XX e).F ((XX e).cls 50) = true := by kernel_rfl
theorem fm_Congestion___init__ {e} : FM e 50 "__init__" 195 := by kernel_rfl
theorem ty_195 {e} : TY e 195 := by kernel_rfl
theorem n_56 {e} : NM e 56 "congestion" := by kernel_rfl
theorem tk_Tcb_congestion {e} : TK e 19 "congestion" := by kernel_rfl
theorem fa_Limits_ack_delay {e} : FA e 8 "ack_delay" := by kernel_rfl
theorem n_57 {e} : NM e 57 "delay" := by kernel_rfl
theorem c_AckPolicy {e : Ev} : ClsOk (XX e) 58 := ⟨⟨_, (by kernel_rfl : clsIn (XX e).F ((XX e).cls 58) = some cd_177), rfl⟩, by kernel_rfl, by kernel_rfl, by kernel_rfl, by kernel_rfl⟩
theorem tk_AckPolicy_delay {e} : TK e 58 "delay" := by kernel_rfl
theorem n_59 {e} : NM e 59 "waiting" := by kernel_rfl
theorem tk_AckPolicy_waiting {e} : TK e 58 "waiting" := by kernel_rfl
theorem n_60 {e} : NM e 60 "due" := by kernel_rfl
theorem tk_AckPolicy_due {e} : TK e 58 "due" := by kernel_rfl
theorem n_61 {e} : NM e 61 "has_gap" := by kernel_rfl
theorem tk_AckPolicy_has_gap {e} : TK e 58 "has_gap" := by kernel_rfl
theorem g_AckPolicy {e} : GV e "AckPolicy" (.ref ((XX e).cls 58)) := by kernel_rfl
theorem kc_AckPolicy {e} : keepIn (XX e).F (.ref ((XX e).cls 58)) = true := by kernel_rfl
theorem mk_AckPolicy {e} : makesIn (XX e).F ((XX e).cls 58) = true := by kernel_rfl
theorem fm_AckPolicy___init__ {e} : FM e 58 "__init__" 138 := by kernel_rfl
theorem ty_138 {e} : TY e 138 := by kernel_rfl
theorem n_62 {e} : NM e 62 "acks" := by kernel_rfl
theorem tk_Tcb_acks {e} : TK e 19 "acks" := by kernel_rfl
theorem c_Wheel {e : Ev} : ClsOk (XX e) 63 := ⟨⟨_, (by kernel_rfl : clsIn (XX e).F ((XX e).cls 63) = some cd_842), rfl⟩, by kernel_rfl, by kernel_rfl, by kernel_rfl, by kernel_rfl⟩
theorem tk_Wheel_size {e} : TK e 63 "size" := by kernel_rfl
theorem n_64 {e} : NM e 64 "place" := by kernel_rfl
theorem gn_range {e} : nsIn (XX e).F (XX e).G (.ofString "range") = some none := by kernel_rfl
theorem gb_range {e} : nsIn (XX e).F (XX e).B (.ofString "range") = some (some (.type "range")) := by kernel_rfl
theorem n_65 {e} : NM e 65 "slots" := by kernel_rfl
theorem tk_Wheel_slots {e} : TK e 63 "slots" := by kernel_rfl
theorem n_66 {e} : NM e 66 "late" := by kernel_rfl
theorem tk_Wheel_late {e} : TK e 63 "late" := by kernel_rfl
theorem n_67 {e} : NM e 67 "entries" := by kernel_rfl
theorem tk_Wheel_entries {e} : TK e 63 "entries" := by kernel_rfl
theorem n_68 {e} : NM e 68 "reached" := by kernel_rfl
theorem tk_Wheel_reached {e} : TK e 63 "reached" := by kernel_rfl
theorem n_69 {e} : NM e 69 "given" := by kernel_rfl
theorem tk_Wheel_given {e} : TK e 63 "given" := by kernel_rfl
theorem g_Wheel {e} : GV e "Wheel" (.ref ((XX e).cls 63)) := by kernel_rfl
theorem kc_Wheel {e} : keepIn (XX e).F (.ref ((XX e).cls 63)) = true := by kernel_rfl
theorem mk_Wheel {e} : makesIn (XX e).F ((XX e).cls 63) = true := by kernel_rfl
theorem fm_Wheel___init__ {e} : FM e 63 "__init__" 792 := by kernel_rfl
theorem ty_792 {e} : TY e 792 := by kernel_rfl
theorem n_70 {e} : NM e 70 "wheel" := by kernel_rfl
theorem tk_Tcb_wheel {e} : TK e 19 "wheel" := by kernel_rfl
theorem n_71 {e} : NM e 71 "error" := by kernel_rfl
theorem tk_Tcb_error {e} : TK e 19 "error" := by kernel_rfl
theorem n_72 {e} : NM e 72 "probes" := by kernel_rfl
theorem tk_Tcb_probes {e} : TK e 19 "probes" := by kernel_rfl
theorem n_73 {e} : NM e 73 "unanswered" := by kernel_rfl
theorem tk_Tcb_unanswered {e} : TK e 19 "unanswered" := by kernel_rfl
theorem n_74 {e} : NM e 74 "is_nagle" := by kernel_rfl
theorem tk_Tcb_is_nagle {e} : TK e 19 "is_nagle" := by kernel_rfl
theorem g_Tcb {e} : GV e "Tcb" (.ref ((XX e).cls 19)) := by kernel_rfl
theorem kc_Tcb {e} : keepIn (XX e).F (.ref ((XX e).cls 19)) = true := by kernel_rfl
theorem mk_Tcb {e} : makesIn (XX e).F ((XX e).cls 19) = true := by kernel_rfl
theorem fm_Tcb___init__ {e} : FM e 19 "__init__" 888 := by kernel_rfl
theorem ty_888 {e} : TY e 888 := by kernel_rfl
theorem n_75 {e} : NM e 75 "tcb" := by kernel_rfl
theorem t_2 {e} : (XX e).st 2 = .ofString "connect" := by kernel_rfl
theorem fa_Tcb_state {e} : FA e 19 "state" := by kernel_rfl
theorem n_76 {e} : NM e 76 "event" := by kernel_rfl
theorem t_3 {e} : (XX e).st 3 = .ofString "listen" := by kernel_rfl
theorem g_LISTEN {e} : GV e "LISTEN" (.str (.ofString "listen") 1184) := by kernel_rfl
theorem t_4 {e} : (XX e).st 4 = .ofString "syn sent" := by kernel_rfl
theorem g_SYN_SENT {e} : GV e "SYN_SENT" (.str (.ofString "syn sent") 1186) := by kernel_rfl
theorem t_5 {e} : (XX e).st 5 = .ofString "syn" := by kernel_rfl
theorem t_6 {e} : (XX e).st 6 = .ofString "syn received" := by kernel_rfl
theorem g_SYN_RECEIVED {e} : GV e "SYN_RECEIVED" (.str (.ofString "syn received") 1188) := by kernel_rfl
theorem t_7 {e} : (XX e).st 7 = .ofString "syn ack" := by kernel_rfl
theorem t_8 {e} : (XX e).st 8 = .ofString "established" := by kernel_rfl
theorem g_ESTABLISHED {e} : GV e "ESTABLISHED" (.str (.ofString "established") 1190) := by kernel_rfl
theorem t_9 {e} : (XX e).st 9 = .ofString "ack of syn" := by kernel_rfl
theorem t_10 {e} : (XX e).st 10 = .ofString "close" := by kernel_rfl
theorem t_11 {e} : (XX e).st 11 = .ofString "fin wait 1" := by kernel_rfl
theorem g_FIN_WAIT_1 {e} : GV e "FIN_WAIT_1" (.str (.ofString "fin wait 1") 1192) := by kernel_rfl
theorem t_12 {e} : (XX e).st 12 = .ofString "close wait" := by kernel_rfl
theorem g_CLOSE_WAIT {e} : GV e "CLOSE_WAIT" (.str (.ofString "close wait") 1196) := by kernel_rfl
theorem t_13 {e} : (XX e).st 13 = .ofString "last ack" := by kernel_rfl
theorem g_LAST_ACK {e} : GV e "LAST_ACK" (.str (.ofString "last ack") 1200) := by kernel_rfl
theorem t_14 {e} : (XX e).st 14 = .ofString "fin" := by kernel_rfl
theorem t_15 {e} : (XX e).st 15 = .ofString "closing" := by kernel_rfl
theorem g_CLOSING {e} : GV e "CLOSING" (.str (.ofString "closing") 1198) := by kernel_rfl
theorem t_16 {e} : (XX e).st 16 = .ofString "fin wait 2" := by kernel_rfl
theorem g_FIN_WAIT_2 {e} : GV e "FIN_WAIT_2" (.str (.ofString "fin wait 2") 1194) := by kernel_rfl
theorem t_17 {e} : (XX e).st 17 = .ofString "time wait" := by kernel_rfl
theorem g_TIME_WAIT {e} : GV e "TIME_WAIT" (.str (.ofString "time wait") 1202) := by kernel_rfl
theorem t_18 {e} : (XX e).st 18 = .ofString "ack of fin" := by kernel_rfl
theorem t_19 {e} : (XX e).st 19 = .ofString "fin and ack of fin" := by kernel_rfl
theorem t_20 {e} : (XX e).st 20 = .ofString "time wait over" := by kernel_rfl
theorem t_21 {e} : (XX e).st 21 = .ofString "reset" := by kernel_rfl
theorem t_22 {e} : (XX e).st 22 = .ofString "abort" := by kernel_rfl
theorem t_23 {e} : (XX e).st 23 = .ofString "timeout" := by kernel_rfl
theorem g_opening_steps {e} : GV e "opening_steps" (.ref 751) := by kernel_rfl
theorem kp_751 {e} : KP e 751 := by kernel_rfl
theorem n_77 {e} : NM e 77 "found" := by kernel_rfl
theorem g_closing_steps {e} : GV e "closing_steps" (.ref 758) := by kernel_rfl
theorem kp_758 {e} : KP e 758 := by kernel_rfl
theorem g_follow {e} : GV e "follow" (.ref 765) := by kernel_rfl
theorem kp_765 {e} : KP e 765 := by kernel_rfl
theorem g_change_state {e} : GV e "change_state" (.ref 917) := by kernel_rfl
theorem kp_917 {e} : KP e 917 := by kernel_rfl
theorem n_78 {e} : NM e 78 "now" := by kernel_rfl
theorem g_is_sending {e} : GV e "is_sending" (.ref 779) := by kernel_rfl
theorem kp_779 {e} : KP e 779 := by kernel_rfl
theorem fa_Tcb_sender {e} : FA e 19 "sender" := by kernel_rfl
theorem fa_Sender_fin_asked {e} : FA e 2 "fin_asked" := by kernel_rfl
theorem g_take_asked_fin {e} : GV e "take_asked_fin" (.ref 994) := by kernel_rfl
theorem kp_994 {e} : KP e 994 := by kernel_rfl
theorem fa_Sender_next {e} : FA e 2 "next" := by kernel_rfl
theorem fa_Sender_iss {e} : FA e 2 "iss" := by kernel_rfl
theorem n_79 {e} : NM e 79 "ack" := by kernel_rfl
theorem fa_Tcb_receiver {e} : FA e 19 "receiver" := by kernel_rfl
theorem n_80 {e} : NM e 80 "flags" := by kernel_rfl
theorem g_ACK {e} : GV e "ACK" (.int (16) 1088) := by kernel_rfl
theorem c_Receiver {e : Ev} : ClsOk (XX e) 81 := ⟨⟨_, (by kernel_rfl : clsIn (XX e).F ((XX e).cls 81) = some cd_1276), rfl⟩, by kernel_rfl, by kernel_rfl, by kernel_rfl, by kernel_rfl⟩
theorem fa_Receiver_next {e} : FA e 81 "next" := by kernel_rfl
theorem fa_Tcb_acks {e} : FA e 19 "acks" := by kernel_rfl
theorem n_82 {e} : NM e 82 "on_sent" := by kernel_rfl
theorem fm_AckPolicy_on_sent {e} : FM e 58 "on_sent" 167 := by kernel_rfl
theorem ty_167 {e} : TY e 167 := by kernel_rfl
theorem kp_167 {e} : KP e 167 := by kernel_rfl
theorem n_83 {e} : NM e 83 "key" := by kernel_rfl
theorem fa_Wheel_entries {e} : FA e 63 "entries" := by kernel_rfl
theorem n_84 {e} : NM e 84 "time" := by kernel_rfl
theorem n_85 {e} : NM e 85 "order" := by kernel_rfl
theorem fa_Wheel_late {e} : FA e 63 "late" := by kernel_rfl
theorem fa_Wheel_slots {e} : FA e 63 "slots" := by kernel_rfl
theorem fa_Wheel_size {e} : FA e 63 "size" := by kernel_rfl
theorem n_86 {e} : NM e 86 "keys" := by kernel_rfl
theorem fa_Tcb_wheel {e} : FA e 19 "wheel" := by kernel_rfl
theorem g_DELAYED {e} : GV e "DELAYED" (.int (3) 1339) := by kernel_rfl
theorem n_87 {e} : NM e 87 "cancel" := by kernel_rfl
theorem fm_Wheel_cancel {e} : FM e 63 "cancel" 813 := by kernel_rfl
theorem ty_813 {e} : TY e 813 := by kernel_rfl
theorem kp_813 {e} : KP e 813 := by kernel_rfl
theorem g_SYN {e} : GV e "SYN" (.int (2) 1082) := by kernel_rfl
theorem fa_Tcb_limits {e} : FA e 19 "limits" := by kernel_rfl
theorem g_MOST_WINDOW {e} : GV e "MOST_WINDOW" (.int (65535) 1343) := by kernel_rfl
theorem gn_min {e} : nsIn (XX e).F (XX e).G (.ofString "min") = some none := by kernel_rfl
theorem gb_min {e} : nsIn (XX e).F (XX e).B (.ofString "min") = some (some (.builtin "min")) := by kernel_rfl
theorem n_88 {e} : NM e 88 "n" := by kernel_rfl
theorem n_89 {e} : NM e 89 "number" := by kernel_rfl
theorem n_90 {e} : NM e 90 "bits" := by kernel_rfl
theorem g_check_number {e} : GV e "check_number" (.ref 737) := by kernel_rfl
theorem kp_737 {e} : KP e 737 := by kernel_rfl
theorem g_OPTION_MSS {e} : GV e "OPTION_MSS" (.int (2) 1090) := by kernel_rfl
theorem g_MSS_SIZE {e} : GV e "MSS_SIZE" (.int (4) 1092) := by kernel_rfl
theorem gn_bytes {e} : nsIn (XX e).F (XX e).G (.ofString "bytes") = some none := by kernel_rfl
theorem gb_bytes {e} : nsIn (XX e).F (XX e).B (.ofString "bytes") = some (some (.type "bytes")) := by kernel_rfl
theorem g_put16 {e} : GV e "put16" (.ref 687) := by kernel_rfl
theorem kp_687 {e} : KP e 687 := by kernel_rfl
theorem g_mss_option {e} : GV e "mss_option" (.ref 744) := by kernel_rfl
theorem kp_744 {e} : KP e 744 := by kernel_rfl
theorem n_91 {e} : NM e 91 "options" := by kernel_rfl
theorem fa_Limits_receive_room {e} : FA e 8 "receive_room" := by kernel_rfl
theorem n_92 {e} : NM e 92 "told_edge" := by kernel_rfl
theorem fa_Receiver_told_edge {e} : FA e 81 "told_edge" := by kernel_rfl
theorem fa_Receiver_room {e} : FA e 81 "room" := by kernel_rfl
theorem n_93 {e} : NM e 93 "ready" := by kernel_rfl
theorem fa_Receiver_ready {e} : FA e 81 "ready" := by kernel_rfl
theorem gn_len {e} : nsIn (XX e).F (XX e).G (.ofString "len") = some none := by kernel_rfl
theorem gb_len {e} : nsIn (XX e).F (XX e).B (.ofString "len") = some (some (.builtin "len")) := by kernel_rfl
theorem fa_Receiver_ring {e} : FA e 81 "ring" := by kernel_rfl
theorem n_94 {e} : NM e 94 "a" := by kernel_rfl
theorem g_plus {e} : GV e "plus" (.ref 96) := by kernel_rfl
theorem kp_96 {e} : KP e 96 := by kernel_rfl
theorem n_95 {e} : NM e 95 "free_edge" := by kernel_rfl
theorem fm_Receiver_free_edge {e} : FM e 81 "free_edge" 1168 := by kernel_rfl
theorem ty_1168 {e} : TY e 1168 := by kernel_rfl
theorem kp_1168 {e} : KP e 1168 := by kernel_rfl
theorem n_96 {e} : NM e 96 "b" := by kernel_rfl
theorem g_distance {e} : GV e "distance" (.ref 103) := by kernel_rfl
theorem kp_103 {e} : KP e 103 := by kernel_rfl
theorem n_97 {e} : NM e 97 "gap" := by kernel_rfl
theorem g_is_before {e} : GV e "is_before" (.ref 110) := by kernel_rfl
theorem kp_110 {e} : KP e 110 := by kernel_rfl
theorem n_98 {e} : NM e 98 "has_fin" := by kernel_rfl
theorem fa_Receiver_has_fin {e} : FA e 81 "has_fin" := by kernel_rfl
theorem gn_max {e} : nsIn (XX e).F (XX e).G (.ofString "max") = some none := by kernel_rfl
theorem gb_max {e} : nsIn (XX e).F (XX e).B (.ofString "max") = some (some (.builtin "max")) := by kernel_rfl
theorem fa_Receiver_mss {e} : FA e 81 "mss" := by kernel_rfl
theorem n_99 {e} : NM e 99 "should_tell" := by kernel_rfl
theorem fm_Receiver_should_tell {e} : FM e 81 "should_tell" 1175 := by kernel_rfl
theorem ty_1175 {e} : TY e 1175 := by kernel_rfl
theorem kp_1175 {e} : KP e 1175 := by kernel_rfl
theorem tk_Receiver_told_edge {e} : TK e 81 "told_edge" := by kernel_rfl
theorem n_100 {e} : NM e 100 "told_window" := by kernel_rfl
theorem fm_Receiver_told_window {e} : FM e 81 "told_window" 1182 := by kernel_rfl
theorem ty_1182 {e} : TY e 1182 := by kernel_rfl
theorem kp_1182 {e} : KP e 1182 := by kernel_rfl
theorem n_101 {e} : NM e 101 "window" := by kernel_rfl
theorem fm_Receiver_window {e} : FM e 81 "window" 1189 := by kernel_rfl
theorem ty_1189 {e} : TY e 1189 := by kernel_rfl
theorem kp_1189 {e} : KP e 1189 := by kernel_rfl
theorem n_102 {e} : NM e 102 "window_now" := by kernel_rfl
theorem fm_Tcb_window_now {e} : FM e 19 "window_now" 895 := by kernel_rfl
theorem ty_895 {e} : TY e 895 := by kernel_rfl
theorem kp_895 {e} : KP e 895 := by kernel_rfl
theorem fa_Tcb_local {e} : FA e 19 "local" := by kernel_rfl
theorem fa_Tcb_remote {e} : FA e 19 "remote" := by kernel_rfl
theorem n_103 {e} : NM e 103 "seq" := by kernel_rfl
theorem n_104 {e} : NM e 104 "payload" := by kernel_rfl
theorem n_105 {e} : NM e 105 "source_port" := by kernel_rfl
theorem c_Segment {e : Ev} : ClsOk (XX e) 106 := ⟨⟨_, (by kernel_rfl : clsIn (XX e).F ((XX e).cls 106) = some cd_726), rfl⟩, by kernel_rfl, by kernel_rfl, by kernel_rfl, by kernel_rfl⟩
theorem tk_Segment_source_port {e} : TK e 106 "source_port" := by kernel_rfl
theorem n_107 {e} : NM e 107 "target_port" := by kernel_rfl
theorem tk_Segment_target_port {e} : TK e 106 "target_port" := by kernel_rfl
theorem tk_Segment_seq {e} : TK e 106 "seq" := by kernel_rfl
theorem tk_Segment_ack {e} : TK e 106 "ack" := by kernel_rfl
theorem tk_Segment_flags {e} : TK e 106 "flags" := by kernel_rfl
theorem tk_Segment_window {e} : TK e 106 "window" := by kernel_rfl
theorem n_108 {e} : NM e 108 "urgent" := by kernel_rfl
theorem tk_Segment_urgent {e} : TK e 106 "urgent" := by kernel_rfl
theorem tk_Segment_options {e} : TK e 106 "options" := by kernel_rfl
theorem tk_Segment_payload {e} : TK e 106 "payload" := by kernel_rfl
theorem g_Segment {e} : GV e "Segment" (.ref ((XX e).cls 106)) := by kernel_rfl
theorem kc_Segment {e} : keepIn (XX e).F (.ref ((XX e).cls 106)) = true := by kernel_rfl
theorem mk_Segment {e} : makesIn (XX e).F ((XX e).cls 106) = true := by kernel_rfl
theorem fm_Segment___init__ {e} : FM e 106 "__init__" 702 := by kernel_rfl
theorem ty_702 {e} : TY e 702 := by kernel_rfl
theorem fa_Sender_syn_pending {e} : FA e 2 "syn_pending" := by kernel_rfl
theorem n_109 {e} : NM e 109 "many" := by kernel_rfl
theorem fa_Sender_ring {e} : FA e 2 "ring" := by kernel_rfl
theorem fa_Sender_greatest {e} : FA e 2 "greatest" := by kernel_rfl
theorem g_latest {e} : GV e "latest" (.ref 124) := by kernel_rfl
theorem kp_124 {e} : KP e 124 := by kernel_rfl
theorem n_110 {e} : NM e 110 "go_on" := by kernel_rfl
theorem fm_Sender_go_on {e} : FM e 2 "go_on" 588 := by kernel_rfl
theorem ty_588 {e} : TY e 588 := by kernel_rfl
theorem kp_588 {e} : KP e 588 := by kernel_rfl
theorem n_111 {e} : NM e 111 "start" := by kernel_rfl
theorem fm_Sender_start {e} : FM e 2 "start" 595 := by kernel_rfl
theorem ty_595 {e} : TY e 595 := by kernel_rfl
theorem kp_595 {e} : KP e 595 := by kernel_rfl
theorem n_112 {e} : NM e 112 "make" := by kernel_rfl
theorem fm_Tcb_make {e} : FM e 19 "make" 903 := by kernel_rfl
theorem ty_903 {e} : TY e 903 := by kernel_rfl
theorem kp_903 {e} : KP e 903 := by kernel_rfl
theorem g_syn_segment {e} : GV e "syn_segment" (.ref 980) := by kernel_rfl
theorem kp_980 {e} : KP e 980 := by kernel_rfl
theorem fa_RetransmitClock_tries {e} : FA e 46 "tries" := by kernel_rfl
theorem fa_RetransmitClock_timed_end {e} : FA e 46 "timed_end" := by kernel_rfl
theorem n_113 {e} : NM e 113 "seq_end" := by kernel_rfl
theorem fa_Tcb_clock {e} : FA e 19 "clock" := by kernel_rfl
theorem n_114 {e} : NM e 114 "sent" := by kernel_rfl
theorem fm_RetransmitClock_sent {e} : FM e 46 "sent" 293 := by kernel_rfl
theorem ty_293 {e} : TY e 293 := by kernel_rfl
theorem kp_293 {e} : KP e 293 := by kernel_rfl
theorem n_115 {e} : NM e 115 "ahead" := by kernel_rfl
theorem fa_SendQueue_held {e} : FA e 31 "held" := by kernel_rfl
theorem fa_Sender_queue {e} : FA e 2 "queue" := by kernel_rfl
theorem fm_SendQueue_size {e} : FM e 31 "size" 419 := by kernel_rfl
theorem ty_419 {e} : TY e 419 := by kernel_rfl
theorem kp_419 {e} : KP e 419 := by kernel_rfl
theorem fa_Sender_una {e} : FA e 2 "una" := by kernel_rfl
theorem n_116 {e} : NM e 116 "flight" := by kernel_rfl
theorem fm_Sender_flight {e} : FM e 2 "flight" 539 := by kernel_rfl
theorem ty_539 {e} : TY e 539 := by kernel_rfl
theorem kp_539 {e} : KP e 539 := by kernel_rfl
theorem gn_int {e} : nsIn (XX e).F (XX e).G (.ofString "int") = some none := by kernel_rfl
theorem gb_int {e} : nsIn (XX e).F (XX e).B (.ofString "int") = some (some (.type "int")) := by kernel_rfl
theorem n_117 {e} : NM e 117 "data_sent" := by kernel_rfl
theorem fm_Sender_data_sent {e} : FM e 2 "data_sent" 553 := by kernel_rfl
theorem ty_553 {e} : TY e 553 := by kernel_rfl
theorem kp_553 {e} : KP e 553 := by kernel_rfl
theorem n_118 {e} : NM e 118 "unsent" := by kernel_rfl
theorem fm_Sender_unsent {e} : FM e 2 "unsent" 560 := by kernel_rfl
theorem ty_560 {e} : TY e 560 := by kernel_rfl
theorem kp_560 {e} : KP e 560 := by kernel_rfl
theorem fa_Sender_mss {e} : FA e 2 "mss" := by kernel_rfl
theorem n_119 {e} : NM e 119 "congestion_window" := by kernel_rfl
theorem n_120 {e} : NM e 120 "usable" := by kernel_rfl
theorem fm_Sender_usable {e} : FM e 2 "usable" 546 := by kernel_rfl
theorem ty_546 {e} : TY e 546 := by kernel_rfl
theorem kp_546 {e} : KP e 546 := by kernel_rfl
theorem fa_PeerWindow_most {e} : FA e 4 "most" := by kernel_rfl
theorem n_121 {e} : NM e 121 "may_go" := by kernel_rfl
theorem fm_Sender_may_go {e} : FM e 2 "may_go" 602 := by kernel_rfl
theorem ty_602 {e} : TY e 602 := by kernel_rfl
theorem kp_602 {e} : KP e 602 := by kernel_rfl
theorem n_122 {e} : NM e 122 "at" := by kernel_rfl
theorem n_123 {e} : NM e 123 "part" := by kernel_rfl
theorem fm_SendQueue_part {e} : FM e 31 "part" 440 := by kernel_rfl
theorem ty_440 {e} : TY e 440 := by kernel_rfl
theorem kp_440 {e} : KP e 440 := by kernel_rfl
theorem n_124 {e} : NM e 124 "octets" := by kernel_rfl
theorem n_125 {e} : NM e 125 "is_last" := by kernel_rfl
theorem fa_Sender_fin_sent {e} : FA e 2 "fin_sent" := by kernel_rfl
theorem n_126 {e} : NM e 126 "piece_of" := by kernel_rfl
theorem fm_Sender_piece_of {e} : FM e 2 "piece_of" 617 := by kernel_rfl
theorem ty_617 {e} : TY e 617 := by kernel_rfl
theorem kp_617 {e} : KP e 617 := by kernel_rfl
theorem n_127 {e} : NM e 127 "is_fin_acked" := by kernel_rfl
theorem fm_Sender_is_fin_acked {e} : FM e 2 "is_fin_acked" 574 := by kernel_rfl
theorem ty_574 {e} : TY e 574 := by kernel_rfl
theorem kp_574 {e} : KP e 574 := by kernel_rfl
theorem n_128 {e} : NM e 128 "is_fin_due" := by kernel_rfl
theorem fm_Sender_is_fin_due {e} : FM e 2 "is_fin_due" 567 := by kernel_rfl
theorem ty_567 {e} : TY e 567 := by kernel_rfl
theorem kp_567 {e} : KP e 567 := by kernel_rfl
theorem fa_Congestion_size {e} : FA e 50 "size" := by kernel_rfl
theorem fa_Tcb_congestion {e} : FA e 19 "congestion" := by kernel_rfl
theorem fm_Congestion_window {e} : FM e 50 "window" 202 := by kernel_rfl
theorem ty_202 {e} : TY e 202 := by kernel_rfl
theorem kp_202 {e} : KP e 202 := by kernel_rfl
theorem fa_Tcb_is_nagle {e} : FA e 19 "is_nagle" := by kernel_rfl
theorem n_129 {e} : NM e 129 "pieces" := by kernel_rfl
theorem fm_Sender_pieces {e} : FM e 2 "pieces" 610 := by kernel_rfl
theorem ty_610 {e} : TY e 610 := by kernel_rfl
theorem kp_610 {e} : KP e 610 := by kernel_rfl
theorem n_130 {e} : NM e 130 "has_push" := by kernel_rfl
theorem n_131 {e} : NM e 131 "end" := by kernel_rfl
theorem g_PSH {e} : GV e "PSH" (.int (8) 1086) := by kernel_rfl
theorem g_FIN {e} : GV e "FIN" (.int (1) 1080) := by kernel_rfl
theorem g_flags_of {e} : GV e "flags_of" (.ref 987) := by kernel_rfl
theorem kp_987 {e} : KP e 987 := by kernel_rfl
theorem g_data_segments {e} : GV e "data_segments" (.ref 1001) := by kernel_rfl
theorem kp_1001 {e} : KP e 1001 := by kernel_rfl
theorem g_RESEND {e} : GV e "RESEND" (.int (1) 1335) := by kernel_rfl
theorem n_132 {e} : NM e 132 "time_of" := by kernel_rfl
theorem fm_Wheel_time_of {e} : FM e 63 "time_of" 820 := by kernel_rfl
theorem ty_820 {e} : TY e 820 := by kernel_rfl
theorem kp_820 {e} : KP e 820 := by kernel_rfl
theorem fa_Wheel_given {e} : FA e 63 "given" := by kernel_rfl
theorem fa_Wheel_reached {e} : FA e 63 "reached" := by kernel_rfl
theorem n_133 {e} : NM e 133 "list_of" := by kernel_rfl
theorem fm_Wheel_list_of {e} : FM e 63 "list_of" 806 := by kernel_rfl
theorem ty_806 {e} : TY e 806 := by kernel_rfl
theorem kp_806 {e} : KP e 806 := by kernel_rfl
theorem n_134 {e} : NM e 134 "ticks" := by kernel_rfl
theorem fa_RttEstimate_least {e} : FA e 40 "least" := by kernel_rfl
theorem fa_RttEstimate_most {e} : FA e 40 "most" := by kernel_rfl
theorem fa_RttEstimate_measured {e} : FA e 40 "measured" := by kernel_rfl
theorem fa_RttEstimate_first {e} : FA e 40 "first" := by kernel_rfl
theorem fa_RttEstimate_mean8 {e} : FA e 40 "mean8" := by kernel_rfl
theorem fa_RttEstimate_spread4 {e} : FA e 40 "spread4" := by kernel_rfl
theorem n_135 {e} : NM e 135 "plain_timeout" := by kernel_rfl
theorem fm_RttEstimate_plain_timeout {e} : FM e 40 "plain_timeout" 377 := by kernel_rfl
theorem ty_377 {e} : TY e 377 := by kernel_rfl
theorem kp_377 {e} : KP e 377 := by kernel_rfl
theorem n_136 {e} : NM e 136 "bounded" := by kernel_rfl
theorem fm_RttEstimate_bounded {e} : FM e 40 "bounded" 391 := by kernel_rfl
theorem ty_391 {e} : TY e 391 := by kernel_rfl
theorem kp_391 {e} : KP e 391 := by kernel_rfl
theorem fa_RetransmitClock_estimate {e} : FA e 46 "estimate" := by kernel_rfl
theorem n_137 {e} : NM e 137 "timeout" := by kernel_rfl
theorem fm_RttEstimate_timeout {e} : FM e 40 "timeout" 384 := by kernel_rfl
theorem ty_384 {e} : TY e 384 := by kernel_rfl
theorem kp_384 {e} : KP e 384 := by kernel_rfl
theorem g_MOST_SHIFT_retransmit {e} : GV e "MOST_SHIFT_retransmit" (.int (7) 524) := by kernel_rfl
theorem n_138 {e} : NM e 138 "turn" := by kernel_rfl
theorem n_139 {e} : NM e 139 "waited" := by kernel_rfl
theorem fm_RetransmitClock_waited {e} : FM e 46 "waited" 328 := by kernel_rfl
theorem ty_328 {e} : TY e 328 := by kernel_rfl
theorem kp_328 {e} : KP e 328 := by kernel_rfl
theorem n_140 {e} : NM e 140 "deadline" := by kernel_rfl
theorem fm_RetransmitClock_deadline {e} : FM e 46 "deadline" 335 := by kernel_rfl
theorem ty_335 {e} : TY e 335 := by kernel_rfl
theorem kp_335 {e} : KP e 335 := by kernel_rfl
theorem n_141 {e} : NM e 141 "put" := by kernel_rfl
theorem fm_Wheel_put {e} : FM e 63 "put" 799 := by kernel_rfl
theorem ty_799 {e} : TY e 799 := by kernel_rfl
theorem kp_799 {e} : KP e 799 := by kernel_rfl
theorem n_142 {e} : NM e 142 "is_idle_with_more" := by kernel_rfl
theorem fm_Sender_is_idle_with_more {e} : FM e 2 "is_idle_with_more" 652 := by kernel_rfl
theorem ty_652 {e} : TY e 652 := by kernel_rfl
theorem kp_652 {e} : KP e 652 := by kernel_rfl
theorem n_143 {e} : NM e 143 "needs_probe" := by kernel_rfl
theorem fm_Sender_needs_probe {e} : FM e 2 "needs_probe" 659 := by kernel_rfl
theorem ty_659 {e} : TY e 659 := by kernel_rfl
theorem kp_659 {e} : KP e 659 := by kernel_rfl
theorem g_PERSIST {e} : GV e "PERSIST" (.int (2) 1337) := by kernel_rfl
theorem fa_Tcb_probes {e} : FA e 19 "probes" := by kernel_rfl
theorem g_MOST_SHIFT_tcp_user {e} : GV e "MOST_SHIFT_tcp_user" (.int (7) 1468) := by kernel_rfl
theorem g_probe_wait {e} : GV e "probe_wait" (.ref 1022) := by kernel_rfl
theorem kp_1022 {e} : KP e 1022 := by kernel_rfl
theorem g_keep_timers {e} : GV e "keep_timers" (.ref 1015) := by kernel_rfl
theorem kp_1015 {e} : KP e 1015 := by kernel_rfl
theorem g_output {e} : GV e "output" (.ref 1008) := by kernel_rfl
theorem kp_1008 {e} : KP e 1008 := by kernel_rfl
theorem g_open_active {e} : GV e "open_active" (.ref 945) := by kernel_rfl
theorem kp_945 {e} : KP e 945 := by kernel_rfl
theorem n_144 {e} : NM e 144 "ever_sent" := by kernel_rfl
theorem fm_Sender_ever_sent {e} : FM e 2 "ever_sent" 624 := by kernel_rfl
theorem ty_624 {e} : TY e 624 := by kernel_rfl
theorem kp_624 {e} : KP e 624 := by kernel_rfl
theorem n_145 {e} : NM e 145 "is_syn" := by kernel_rfl
theorem n_146 {e} : NM e 146 "drop" := by kernel_rfl
theorem fm_SendQueue_drop {e} : FM e 31 "drop" 447 := by kernel_rfl
theorem ty_447 {e} : TY e 447 := by kernel_rfl
theorem kp_447 {e} : KP e 447 := by kernel_rfl
theorem n_147 {e} : NM e 147 "acked" := by kernel_rfl
theorem fm_Sender_acked {e} : FM e 2 "acked" 673 := by kernel_rfl
theorem ty_673 {e} : TY e 673 := by kernel_rfl
theorem kp_673 {e} : KP e 673 := by kernel_rfl
theorem fa_PeerWindow_told_seq {e} : FA e 4 "told_seq" := by kernel_rfl
theorem fa_PeerWindow_ring {e} : FA e 4 "ring" := by kernel_rfl
theorem fa_PeerWindow_told_ack {e} : FA e 4 "told_ack" := by kernel_rfl
theorem n_148 {e} : NM e 148 "is_newer" := by kernel_rfl
theorem fm_PeerWindow_is_newer {e} : FM e 4 "is_newer" 475 := by kernel_rfl
theorem ty_475 {e} : TY e 475 := by kernel_rfl
theorem kp_475 {e} : KP e 475 := by kernel_rfl
theorem n_149 {e} : NM e 149 "take" := by kernel_rfl
theorem fm_PeerWindow_take {e} : FM e 4 "take" 482 := by kernel_rfl
theorem ty_482 {e} : TY e 482 := by kernel_rfl
theorem kp_482 {e} : KP e 482 := by kernel_rfl
theorem n_150 {e} : NM e 150 "take_window" := by kernel_rfl
theorem fm_Sender_take_window {e} : FM e 2 "take_window" 518 := by kernel_rfl
theorem ty_518 {e} : TY e 518 := by kernel_rfl
theorem kp_518 {e} : KP e 518 := by kernel_rfl
theorem g__law_open {e} : GV e "_law_open" (.ref 1332) := by kernel_rfl
theorem kp_1332 {e} : KP e 1332 := by kernel_rfl
theorem fa_Tcb_error {e} : FA e 19 "error" := by kernel_rfl
theorem t_24 {e} : (XX e).st 24 = .ofString "timed out" := by kernel_rfl
theorem g_check_error {e} : GV e "check_error" (.ref 938) := by kernel_rfl
theorem kp_938 {e} : KP e 938 := by kernel_rfl
theorem g_may_send {e} : GV e "may_send" (.ref 772) := by kernel_rfl
theorem kp_772 {e} : KP e 772 := by kernel_rfl
theorem fa_SendQueue_room {e} : FA e 31 "room" := by kernel_rfl
theorem n_151 {e} : NM e 151 "room_left" := by kernel_rfl
theorem fm_SendQueue_room_left {e} : FM e 31 "room_left" 426 := by kernel_rfl
theorem ty_426 {e} : TY e 426 := by kernel_rfl
theorem kp_426 {e} : KP e 426 := by kernel_rfl
theorem n_152 {e} : NM e 152 "taken" := by kernel_rfl
theorem fm_SendQueue_put {e} : FM e 31 "put" 433 := by kernel_rfl
theorem ty_433 {e} : TY e 433 := by kernel_rfl
theorem kp_433 {e} : KP e 433 := by kernel_rfl
theorem fm_Sender_put {e} : FM e 2 "put" 525 := by kernel_rfl
theorem ty_525 {e} : TY e 525 := by kernel_rfl
theorem kp_525 {e} : KP e 525 := by kernel_rfl
theorem g_send {e} : GV e "send" (.ref 952) := by kernel_rfl
theorem kp_952 {e} : KP e 952 := by kernel_rfl
theorem n_153 {e} : NM e 153 "is_closing" := by kernel_rfl
theorem g_WAIT {e} : GV e "WAIT" (.int (4) 1341) := by kernel_rfl
theorem g_closed {e} : GV e "closed" (.ref 924) := by kernel_rfl
theorem kp_924 {e} : KP e 924 := by kernel_rfl
theorem n_154 {e} : NM e 154 "ask_fin" := by kernel_rfl
theorem fm_Sender_ask_fin {e} : FM e 2 "ask_fin" 532 := by kernel_rfl
theorem ty_532 {e} : TY e 532 := by kernel_rfl
theorem kp_532 {e} : KP e 532 := by kernel_rfl
theorem g_close {e} : GV e "close" (.ref 959) := by kernel_rfl
theorem kp_959 {e} : KP e 959 := by kernel_rfl
theorem n_155 {e} : NM e 155 "again" := by kernel_rfl
theorem gn_list {e} : nsIn (XX e).F (XX e).G (.ofString "list") = some none := by kernel_rfl
theorem gb_list {e} : nsIn (XX e).F (XX e).B (.ofString "list") = some (some (.type "list")) := by kernel_rfl
theorem n_156 {e} : NM e 156 "keys_until" := by kernel_rfl
theorem fm_Wheel_keys_until {e} : FM e 63 "keys_until" 839 := by kernel_rfl
theorem ty_839 {e} : TY e 839 := by kernel_rfl
theorem kp_839 {e} : KP e 839 := by kernel_rfl
theorem gn_sorted {e} : nsIn (XX e).F (XX e).G (.ofString "sorted") = some none := by kernel_rfl
theorem gb_sorted {e} : nsIn (XX e).F (XX e).B (.ofString "sorted") = some (some (.builtin "sorted")) := by kernel_rfl
theorem fm_Wheel_due {e} : FM e 63 "due" 832 := by kernel_rfl
theorem ty_832 {e} : TY e 832 := by kernel_rfl
theorem kp_832 {e} : KP e 832 := by kernel_rfl
theorem n_157 {e} : NM e 157 "half" := by kernel_rfl
theorem fa_Congestion_mss {e} : FA e 50 "mss" := by kernel_rfl
theorem n_158 {e} : NM e 158 "halved" := by kernel_rfl
theorem fm_Congestion_halved {e} : FM e 50 "halved" 216 := by kernel_rfl
theorem ty_216 {e} : TY e 216 := by kernel_rfl
theorem kp_216 {e} : KP e 216 := by kernel_rfl
theorem n_159 {e} : NM e 159 "timed_out" := by kernel_rfl
theorem fm_Congestion_timed_out {e} : FM e 50 "timed_out" 258 := by kernel_rfl
theorem ty_258 {e} : TY e 258 := by kernel_rfl
theorem kp_258 {e} : KP e 258 := by kernel_rfl
theorem fa_RetransmitClock_most_tries {e} : FA e 46 "most_tries" := by kernel_rfl
theorem n_160 {e} : NM e 160 "back_off" := by kernel_rfl
theorem fm_RetransmitClock_back_off {e} : FM e 46 "back_off" 314 := by kernel_rfl
theorem ty_314 {e} : TY e 314 := by kernel_rfl
theorem kp_314 {e} : KP e 314 := by kernel_rfl
theorem n_161 {e} : NM e 161 "back_to" := by kernel_rfl
theorem fm_Sender_back_to {e} : FM e 2 "back_to" 645 := by kernel_rfl
theorem ty_645 {e} : TY e 645 := by kernel_rfl
theorem kp_645 {e} : KP e 645 := by kernel_rfl
theorem n_162 {e} : NM e 162 "forget" := by kernel_rfl
theorem fm_RetransmitClock_forget {e} : FM e 46 "forget" 300 := by kernel_rfl
theorem ty_300 {e} : TY e 300 := by kernel_rfl
theorem kp_300 {e} : KP e 300 := by kernel_rfl
theorem n_163 {e} : NM e 163 "reach" := by kernel_rfl
theorem fm_Sender_reach {e} : FM e 2 "reach" 638 := by kernel_rfl
theorem ty_638 {e} : TY e 638 := by kernel_rfl
theorem kp_638 {e} : KP e 638 := by kernel_rfl
theorem n_164 {e} : NM e 164 "first_piece" := by kernel_rfl
theorem fm_Sender_first_piece {e} : FM e 2 "first_piece" 631 := by kernel_rfl
theorem ty_631 {e} : TY e 631 := by kernel_rfl
theorem kp_631 {e} : KP e 631 := by kernel_rfl
theorem n_165 {e} : NM e 165 "has_syn" := by kernel_rfl
theorem g_segment_again {e} : GV e "segment_again" (.ref 1043) := by kernel_rfl
theorem kp_1043 {e} : KP e 1043 := by kernel_rfl
theorem g_sent_again {e} : GV e "sent_again" (.ref 1036) := by kernel_rfl
theorem kp_1036 {e} : KP e 1036 := by kernel_rfl
theorem n_166 {e} : NM e 166 "probe" := by kernel_rfl
theorem fm_Sender_probe {e} : FM e 2 "probe" 666 := by kernel_rfl
theorem ty_666 {e} : TY e 666 := by kernel_rfl
theorem kp_666 {e} : KP e 666 := by kernel_rfl
theorem n_167 {e} : NM e 167 "piece" := by kernel_rfl
theorem fa_Tcb_unanswered {e} : FA e 19 "unanswered" := by kernel_rfl
theorem g_probed {e} : GV e "probed" (.ref 1050) := by kernel_rfl
theorem kp_1050 {e} : KP e 1050 := by kernel_rfl
theorem fa_AckPolicy_due {e} : FA e 58 "due" := by kernel_rfl
theorem n_168 {e} : NM e 168 "due_time" := by kernel_rfl
theorem fm_AckPolicy_due_time {e} : FM e 58 "due_time" 174 := by kernel_rfl
theorem ty_174 {e} : TY e 174 := by kernel_rfl
theorem kp_174 {e} : KP e 174 := by kernel_rfl
theorem g_ack_segment {e} : GV e "ack_segment" (.ref 973) := by kernel_rfl
theorem kp_973 {e} : KP e 973 := by kernel_rfl
theorem g_on_time {e} : GV e "on_time" (.ref 1029) := by kernel_rfl
theorem kp_1029 {e} : KP e 1029 := by kernel_rfl
theorem n_169 {e} : NM e 169 "one" := by kernel_rfl
theorem fa_Segment_seq {e} : FA e 106 "seq" := by kernel_rfl
theorem fa_Segment_payload {e} : FA e 106 "payload" := by kernel_rfl
theorem fa_Segment_flags {e} : FA e 106 "flags" := by kernel_rfl
theorem fa_Congestion_gathered {e} : FA e 50 "gathered" := by kernel_rfl
theorem fa_Congestion_threshold {e} : FA e 50 "threshold" := by kernel_rfl
theorem g__law_times {e} : GV e "_law_times" (.ref 1313) := by kernel_rfl
theorem kp_1313 {e} : KP e 1313 := by kernel_rfl
theorem tk_Receiver_ring {e} : TK e 81 "ring" := by kernel_rfl
theorem tk_Receiver_room {e} : TK e 81 "room" := by kernel_rfl
theorem tk_Receiver_mss {e} : TK e 81 "mss" := by kernel_rfl
theorem n_170 {e} : NM e 170 "irs" := by kernel_rfl
theorem tk_Receiver_next {e} : TK e 81 "next" := by kernel_rfl
theorem gn_bytearray {e} : nsIn (XX e).F (XX e).G (.ofString "bytearray") = some none := by kernel_rfl
theorem gb_bytearray {e} : nsIn (XX e).F (XX e).B (.ofString "bytearray") = some (some (.type "bytearray")) := by kernel_rfl
theorem tk_Receiver_ready {e} : TK e 81 "ready" := by kernel_rfl
theorem c_Assembly {e : Ev} : ClsOk (XX e) 171 := ⟨⟨_, (by kernel_rfl : clsIn (XX e).F ((XX e).cls 171) = some cd_1142), rfl⟩, by kernel_rfl, by kernel_rfl, by kernel_rfl, by kernel_rfl⟩
theorem tk_Assembly_ring {e} : TK e 171 "ring" := by kernel_rfl
theorem n_172 {e} : NM e 172 "parts" := by kernel_rfl
theorem tk_Assembly_parts {e} : TK e 171 "parts" := by kernel_rfl
theorem g_Assembly {e} : GV e "Assembly" (.ref ((XX e).cls 171)) := by kernel_rfl
theorem kc_Assembly {e} : keepIn (XX e).F (.ref ((XX e).cls 171)) = true := by kernel_rfl
theorem mk_Assembly {e} : makesIn (XX e).F ((XX e).cls 171) = true := by kernel_rfl
theorem fm_Assembly___init__ {e} : FM e 171 "__init__" 1064 := by kernel_rfl
theorem ty_1064 {e} : TY e 1064 := by kernel_rfl
theorem n_173 {e} : NM e 173 "assembly" := by kernel_rfl
theorem tk_Receiver_assembly {e} : TK e 81 "assembly" := by kernel_rfl
theorem n_174 {e} : NM e 174 "fin_at" := by kernel_rfl
theorem tk_Receiver_fin_at {e} : TK e 81 "fin_at" := by kernel_rfl
theorem tk_Receiver_has_fin {e} : TK e 81 "has_fin" := by kernel_rfl
theorem n_175 {e} : NM e 175 "urgent_at" := by kernel_rfl
theorem tk_Receiver_urgent_at {e} : TK e 81 "urgent_at" := by kernel_rfl
theorem g_Receiver {e} : GV e "Receiver" (.ref ((XX e).cls 81)) := by kernel_rfl
theorem kc_Receiver {e} : keepIn (XX e).F (.ref ((XX e).cls 81)) = true := by kernel_rfl
theorem mk_Receiver {e} : makesIn (XX e).F ((XX e).cls 81) = true := by kernel_rfl
theorem fm_Receiver___init__ {e} : FM e 81 "__init__" 1161 := by kernel_rfl
theorem ty_1161 {e} : TY e 1161 := by kernel_rfl
theorem g_is_at_most {e} : GV e "is_at_most" (.ref 117) := by kernel_rfl
theorem kp_117 {e} : KP e 117 := by kernel_rfl
theorem n_176 {e} : NM e 176 "is_in_order" := by kernel_rfl
theorem n_177 {e} : NM e 177 "let_in" := by kernel_rfl
theorem fm_Receiver_let_in {e} : FM e 81 "let_in" 1203 := by kernel_rfl
theorem ty_1203 {e} : TY e 1203 := by kernel_rfl
theorem kp_1203 {e} : KP e 1203 := by kernel_rfl
theorem n_178 {e} : NM e 178 "kept" := by kernel_rfl
theorem fa_Receiver_fin_at {e} : FA e 81 "fin_at" := by kernel_rfl
theorem fa_Assembly_ring {e} : FA e 171 "ring" := by kernel_rfl
theorem n_179 {e} : NM e 179 "edge" := by kernel_rfl
theorem n_180 {e} : NM e 180 "offset" := by kernel_rfl
theorem fm_Assembly_offset {e} : FM e 171 "offset" 1083 := by kernel_rfl
theorem ty_1083 {e} : TY e 1083 := by kernel_rfl
theorem kp_1083 {e} : KP e 1083 := by kernel_rfl
theorem fa_Assembly_parts {e} : FA e 171 "parts" := by kernel_rfl
theorem n_181 {e} : NM e 181 "left" := by kernel_rfl
theorem fa_Receiver_assembly {e} : FA e 81 "assembly" := by kernel_rfl
theorem n_182 {e} : NM e 182 "cut_behind" := by kernel_rfl
theorem fm_Assembly_cut_behind {e} : FM e 171 "cut_behind" 1139 := by kernel_rfl
theorem ty_1139 {e} : TY e 1139 := by kernel_rfl
theorem kp_1139 {e} : KP e 1139 := by kernel_rfl
theorem n_183 {e} : NM e 183 "note_fin" := by kernel_rfl
theorem fm_Receiver_note_fin {e} : FM e 81 "note_fin" 1210 := by kernel_rfl
theorem ty_1210 {e} : TY e 1210 := by kernel_rfl
theorem kp_1210 {e} : KP e 1210 := by kernel_rfl
theorem n_184 {e} : NM e 184 "ahead_of_fin" := by kernel_rfl
theorem fm_Receiver_ahead_of_fin {e} : FM e 81 "ahead_of_fin" 1217 := by kernel_rfl
theorem ty_1217 {e} : TY e 1217 := by kernel_rfl
theorem kp_1217 {e} : KP e 1217 := by kernel_rfl
theorem n_185 {e} : NM e 185 "begin" := by kernel_rfl
theorem fm_Assembly_forget {e} : FM e 171 "forget" 1118 := by kernel_rfl
theorem ty_1118 {e} : TY e 1118 := by kernel_rfl
theorem kp_1118 {e} : KP e 1118 := by kernel_rfl
theorem n_186 {e} : NM e 186 "last" := by kernel_rfl
theorem n_187 {e} : NM e 187 "missing" := by kernel_rfl
theorem fm_Assembly_missing {e} : FM e 171 "missing" 1097 := by kernel_rfl
theorem ty_1097 {e} : TY e 1097 := by kernel_rfl
theorem kp_1097 {e} : KP e 1097 := by kernel_rfl
theorem n_188 {e} : NM e 188 "fresh" := by kernel_rfl
theorem n_189 {e} : NM e 189 "rest" := by kernel_rfl
theorem n_190 {e} : NM e 190 "merged" := by kernel_rfl
theorem fm_Assembly_merged {e} : FM e 171 "merged" 1104 := by kernel_rfl
theorem ty_1104 {e} : TY e 1104 := by kernel_rfl
theorem kp_1104 {e} : KP e 1104 := by kernel_rfl
theorem n_191 {e} : NM e 191 "joined" := by kernel_rfl
theorem fm_Assembly_joined {e} : FM e 171 "joined" 1111 := by kernel_rfl
theorem ty_1111 {e} : TY e 1111 := by kernel_rfl
theorem kp_1111 {e} : KP e 1111 := by kernel_rfl
theorem fm_Assembly_put {e} : FM e 171 "put" 1090 := by kernel_rfl
theorem ty_1090 {e} : TY e 1090 := by kernel_rfl
theorem kp_1090 {e} : KP e 1090 := by kernel_rfl
theorem fm_Assembly_take {e} : FM e 171 "take" 1125 := by kernel_rfl
theorem ty_1125 {e} : TY e 1125 := by kernel_rfl
theorem kp_1125 {e} : KP e 1125 := by kernel_rfl
theorem n_192 {e} : NM e 192 "gather" := by kernel_rfl
theorem fm_Receiver_gather {e} : FM e 81 "gather" 1224 := by kernel_rfl
theorem ty_1224 {e} : TY e 1224 := by kernel_rfl
theorem kp_1224 {e} : KP e 1224 := by kernel_rfl
theorem n_193 {e} : NM e 193 "arrive" := by kernel_rfl
theorem fm_Receiver_arrive {e} : FM e 81 "arrive" 1196 := by kernel_rfl
theorem ty_1196 {e} : TY e 1196 := by kernel_rfl
theorem kp_1196 {e} : KP e 1196 := by kernel_rfl
theorem g__law_made {e} : GV e "_law_made" (.ref 1308) := by kernel_rfl
theorem kp_1308 {e} : KP e 1308 := by kernel_rfl
theorem n_194 {e} : NM e 194 "rows" := by kernel_rfl
theorem fa_Segment_source_port {e} : FA e 106 "source_port" := by kernel_rfl
theorem fa_Segment_target_port {e} : FA e 106 "target_port" := by kernel_rfl
theorem fa_Segment_ack {e} : FA e 106 "ack" := by kernel_rfl
theorem fa_Segment_window {e} : FA e 106 "window" := by kernel_rfl
theorem fa_Segment_urgent {e} : FA e 106 "urgent" := by kernel_rfl
theorem n_195 {e} : NM e 195 "numbers" := by kernel_rfl
theorem fa_Segment_options {e} : FA e 106 "options" := by kernel_rfl
theorem n_196 {e} : NM e 196 "segment" := by kernel_rfl
theorem n_197 {e} : NM e 197 "row" := by kernel_rfl
theorem fm_Segment_row {e} : FM e 106 "row" 723 := by kernel_rfl
theorem ty_723 {e} : TY e 723 := by kernel_rfl
theorem kp_723 {e} : KP e 723 := by kernel_rfl
theorem g_RST {e} : GV e "RST" (.int (4) 1084) := by kernel_rfl
theorem g_abort {e} : GV e "abort" (.ref 966) := by kernel_rfl
theorem kp_966 {e} : KP e 966 := by kernel_rfl
theorem fa_Limits_time_wait {e} : FA e 8 "time_wait" := by kernel_rfl
theorem g_enter_time_wait {e} : GV e "enter_time_wait" (.ref 931) := by kernel_rfl
theorem kp_931 {e} : KP e 931 := by kernel_rfl
theorem n_198 {e} : NM e 198 "source" := by kernel_rfl
theorem n_199 {e} : NM e 199 "top" := by kernel_rfl
theorem n_200 {e} : NM e 200 "drawn" := by kernel_rfl
theorem n_201 {e} : NM e 201 "things" := by kernel_rfl
theorem g__law_take {e} : GV e "_law_take" (.ref 1294) := by kernel_rfl
theorem kp_1294 {e} : KP e 1294 := by kernel_rfl
theorem g__law_tries_right {e} : GV e "_law_tries_right" (.ref 1337) := by kernel_rfl
theorem kp_1337 {e} : KP e 1337 := by kernel_rfl
theorem g__law_one {e} : GV e "_law_one" (.ref 1301) := by kernel_rfl
theorem kp_1301 {e} : KP e 1301 := by kernel_rfl
theorem g__law_given_up_right {e} : GV e "_law_given_up_right" (.ref 1318) := by kernel_rfl
theorem kp_1318 {e} : KP e 1318 := by kernel_rfl
theorem g__law_waits_right {e} : GV e "_law_waits_right" (.ref 1325) := by kernel_rfl
theorem kp_1325 {e} : KP e 1325 := by kernel_rfl
theorem n_202 {e} : NM e 202 "cell" := by kernel_rfl
theorem n_203 {e} : NM e 203 "great" := by kernel_rfl
theorem n_204 {e} : NM e 204 "k" := by kernel_rfl
theorem n_205 {e} : NM e 205 "mixed" := by kernel_rfl
set_option maxHeartbeats 4000000
noncomputable def allN : Nat → (List Value → Prop) → Prop
  | 0, P => P []
  | n + 1, P => ∀ v, allN n fun l => P (v :: l)
theorem allN_ok : ∀ {n : Nat} {P : List Value → Prop}, allN n P → ∀ vs, vs.length = n → P vs
  | 0, _, h, [], _ => h
  | _ + 1, _, h, v :: vs, e => allN_ok (h v) vs (Nat.succ.inj e)
theorem FnSim.m0 (e : Ev) (n N : Nat) (fd : FuncData) {ps : List Nat} {body : MX} {a : Addr} {stmts : List Stmt} (hb : fd.body = .stmts stmts) (hbind : allN N fun vs => ∀ s : Shared, BindsTo s fd ⟨vs, []⟩ ((ps.map (XX e).nm).zip (vs ++ []))) (hm : SimB (XX e) n fd.scope.names body stmts)
    (ho : (XX e).F.lookup a = some (fob fd) := by kernel_rfl) (hcode : codeIn (XX e).F fd.code fd.qualname = true := by kernel_rfl) (hco : fd.scope.isCoroutine = false := by kernel_rfl) (hgen : fd.scope.isGenerator = false := by kernel_rfl) (hk : fd.scope.kind = .function := by kernel_rfl) (hcell : ∀ x ∈ fd.scope.names, x.2 ≠ .cell := by decide +kernel)
    (hG : fd.globals = (XX e).G := by rfl) (hB : fd.builtins = (XX e).B := by rfl) (hps : ps.Nodup := by decide) (hloc : ∀ p ∈ ps, fd.scope.names.lookup ((XX e).nm p) = some .local := by exact loc_all (by kernel_rfl)) : FnSim (XX e) (n + 1) (fn ps [] body) a N :=
  FnSim.mk (o := fob fd) (dv := []) ho rfl hb hcode hco hgen hk hcell hG hB (fun vs hN s _ => allN_ok hbind vs hN s) hps hloc (fun _ => .nil) hm
theorem SimE.lo {X : Cx} {n : Nat} {sc : List (Str × NameKind)} {x : Str} {pos : Pos} {i : Nat} (hx : X.nm i = x) (h : Nk .local sc x) : SimE X n sc (Mine.loc i) (.Name x pos) := SimE.loc hx h.l h.d
theorem SimE.gl {X : Cx} {n : Nat} {sc : List (Str × NameKind)} {x : Str} {pos : Pos} {a : AV} {v : Value} (hg : nsIn X.F X.G x = some (some v)) (hV : ∀ W, VR X W a v) (h : Nk .globalImplicit sc x) : SimE X n sc (cst a) (.Name x pos) := SimE.glob hg hV h.l h.d
theorem SimL.c {X : Cx} {n : Nat} {sc : List (Str × NameKind)} {m : M} {ms : ML} {e : Expr} {es : List Expr} (hm : SimE X n sc m e) (hs : SimL X n sc ms es) (he : ∀ env, starEach (e :: es) env = (false, eval e env) :: starEach es env := by exact fun _ => rfl) : SimL X n sc (Mine.cons m ms) (e :: es) := SimL.cons he hm hs
theorem SimE.at {X : Cx} {n : Nat} {sc : List (Str × NameKind)} {C a : Nat} {m : M} {value : Expr} {x : Str} {pos : Pos} (hC : ClsOk X C) (hx : X.nm a = x) (hf : findIn X.F (.ref (X.cls C)) x = some none) (hm : SimE X n sc m value)
    (hb : ∀ (env : Env) (w : Sem Value), attributeBase value x env w = w := by exact fun _ _ => rfl) : SimE X n sc (Mine.attr C m a) (.Attribute value x pos) := SimE.attr hC hx hf hb hm
theorem SimS.an {X : Cx} {n : Nat} {sc : List (Str × NameKind)} {m : M} {e : Expr} {x : Str} {i : Nat} {pos' pos : Pos} (hx : X.nm i = x) (hl : Nk .local sc x) (hm : SimE X n sc m e) (hs : ∀ env, swapsWith e (some (.Name x pos')) pos.line env = pure false := by exact fun _ => by kernel_rfl) :
    SimS X n sc (Mine.asg (Mine.tname i) m) (.Assign [.Name x pos'] e pos) := SimS.asgName hx hl.l hs hm
theorem SimS.as {X : Cx} {n : Nat} {sc : List (Str × NameKind)} {m : M} {e te : Expr} {t : MT} {pos : Pos} (ht : SimG X n sc t te) (hm : SimE X n sc m e) (hs : ∀ env, swapsWithSole [te] e pos.line env = pure false := by exact fun _ => by kernel_rfl) (hw : ∀ env, swappedStores [te] e env = pure none := by exact fun _ => by kernel_rfl)
    (he : ∀ env, assignEach [te] env = [(false, assign te env)] := by exact fun _ => rfl) : SimS X n sc (Mine.asg t m) (.Assign [te] e pos) := SimS.asg hs hw he ht hm
theorem SimS.ex {X : Cx} {n : Nat} {sc : List (Str × NameKind)} {m : M} {e : Expr} {pos : Pos} (hm : SimE X n sc m e) (hs : ∀ env, swapsWith e none pos.line env = pure false := by exact fun _ => by kernel_rfl) : SimS X n sc (Mine.expr m) (.Expr e pos) := SimS.expr hs hm
theorem SimE.cb {X : Cx} {n : Nat} {sc : List (Str × NameKind)} {f : MF} {fv : Value} {ms : ML} {es : List Expr} {x : Str} {p pos : Pos} (hg : nsIn X.F X.G x = some none) (hb : nsIn X.F X.B x = some (some fv)) (h : Nk .globalImplicit sc x) (hf : BSim X n f fv) (hs : SimL X n sc ms es)
    (hp : ∀ (env : Env), (backTo pos (starEach es env)).any (·.1) = false := by exact fun _ => rfl) (hr : ∀ a, fv ≠ .ref a := by intro _ q; cases q) : SimE X n sc (Mine.callB f ms) (.Call (.Name x p) es [] pos) := SimE.callB hg hb hr h.l h.d hp hf hs
theorem SimE.cf {X : Cx} {n : Nat} {sc : List (Str × NameKind)} {f : MF} {a : Addr} {ms : ML} {es : List Expr} {x : Str} {p pos : Pos} {m : Nat} (hg : nsIn X.F X.G x = some (some (.ref a))) (h : Nk .globalImplicit sc x) (hk : keepIn X.F (.ref a) = true) (hf : FnSim X m f a es.length) (hs : SimL X n sc ms es)
    (hp : ∀ (env : Env), (backTo pos (starEach es env)).any (·.1) = false := by exact fun _ => rfl) (hmn : m ≤ n := by decide) : SimE X n sc (Mine.callF f ms) (.Call (.Name x p) es [] pos) := SimE.callF hg h.l h.d hk hp hf hmn hs
theorem SimEX.cf {X : Cx} {n : Nat} {sc : List (Str × NameKind)} {f : MF} {a : Addr} {ms : ML} {es : List Expr} {x : Str} {p pos : Pos} {m : Nat} (hg : nsIn X.F X.G x = some (some (.ref a))) (h : Nk .globalImplicit sc x) (hk : keepIn X.F (.ref a) = true) (hf : FnSimX X m f a es.length) (hs : SimL X n sc ms es)
    (hp : ∀ (env : Env), (backTo pos (starEach es env)).any (·.1) = false := by exact fun _ => rfl) (hmn : m ≤ n := by decide) : SimEX X n sc (Mine.callF f ms) (.Call (.Name x p) es [] pos) := SimEX.callF hg h.l h.d hk hp hf hmn hs
theorem SimE.cc {X : Cx} {n : Nat} {sc : List (Str × NameKind)} {C : Nat} {f : MF} {a : Addr} {ms : ML} {es : List Expr} {x : Str} {p pos : Pos} {m : Nat} (hg : nsIn X.F X.G x = some (some (.ref (X.cls C)))) (h : Nk .globalImplicit sc x) (hk : keepIn X.F (.ref (X.cls C)) = true) (hm : makesIn X.F (X.cls C) = true) (hi : findIn X.F (.ref (X.cls C)) "__init__" = some (some (.ref a))) (ht : typeIn X.F (.ref a) = some (.type "function"))
    (hf : FnSim X m f a (es.length + 1)) (hs : SimL X n sc ms es) (hp : ∀ (env : Env), (backTo pos (starEach es env)).any (·.1) = false := by exact fun _ => rfl) (hmn : m + 1 ≤ n := by decide) : SimE X n sc (Mine.callC C f ms) (.Call (.Name x p) es [] pos) := SimE.callC hg h.l h.d hk hp hm hi ht hf hmn hs
theorem SimEX.cc {X : Cx} {n : Nat} {sc : List (Str × NameKind)} {C : Nat} {f : MF} {a : Addr} {ms : ML} {es : List Expr} {x : Str} {p pos : Pos} {m : Nat} (hg : nsIn X.F X.G x = some (some (.ref (X.cls C)))) (h : Nk .globalImplicit sc x) (hk : keepIn X.F (.ref (X.cls C)) = true) (hm : makesIn X.F (X.cls C) = true) (hi : findIn X.F (.ref (X.cls C)) "__init__" = some (some (.ref a))) (ht : typeIn X.F (.ref a) = some (.type "function"))
    (hf : FnSimX X m f a (es.length + 1)) (hs : SimL X n sc ms es) (hp : ∀ (env : Env), (backTo pos (starEach es env)).any (·.1) = false := by exact fun _ => rfl) (hmn : m + 1 ≤ n := by decide) : SimEX X n sc (Mine.callC C f ms) (.Call (.Name x p) es [] pos) := SimEX.callC hg h.l h.d hk hp hm hi ht hf hmn hs
theorem SimE.me {X : Cx} {n : Nat} {sc : List (Str × NameKind)} {C mi : Nat} {f : MF} {a : Addr} {o : M} {ms : ML} {oe : Expr} {es : List Expr} {x : Str} {apos pos : Pos} {m : Nat} (hC : ClsOk X C) (hx : X.nm mi = x) (hfi : findIn X.F (.ref (X.cls C)) x = some (some (.ref a))) (ht : typeIn X.F (.ref a) = some (.type "function"))
    (hk : keepIn X.F (.ref a) = true) (hf : FnSim X m f a (es.length + 1)) (ho : SimE X n sc o oe) (hs : SimL X n sc ms es) (hp : ∀ (env : Env), (backTo pos (starEach es env)).any (·.1) = false := by exact fun _ => rfl)
    (he : ∀ (env : Env), eval (.Call (.Attribute oe x apos) es [] pos) env = (do
      let ov ← eval oe env
      standAt apos.atName
      let (f, first) ← holding [ov] (getMethod ov x (do return (← importBound oe env).getD true))
      callWith pos f first (backTo pos (starEach es env)) (backToKw pos (keywordEach [] env))) := by exact fun _ => rfl) (hmn : m ≤ n := by decide) : SimE X n sc (Mine.meth C mi f o ms) (.Call (.Attribute oe x apos) es [] pos) := SimE.meth hC hx hfi ht hk hp he hf hmn ho hs
theorem SimEX.me {X : Cx} {n : Nat} {sc : List (Str × NameKind)} {C mi : Nat} {f : MF} {a : Addr} {o : M} {ms : ML} {oe : Expr} {es : List Expr} {x : Str} {apos pos : Pos} {m : Nat} (hC : ClsOk X C) (hx : X.nm mi = x) (hfi : findIn X.F (.ref (X.cls C)) x = some (some (.ref a))) (ht : typeIn X.F (.ref a) = some (.type "function"))
    (hk : keepIn X.F (.ref a) = true) (hf : FnSimX X m f a (es.length + 1)) (ho : SimE X n sc o oe) (hs : SimL X n sc ms es) (hp : ∀ (env : Env), (backTo pos (starEach es env)).any (·.1) = false := by exact fun _ => rfl)
    (he : ∀ (env : Env), eval (.Call (.Attribute oe x apos) es [] pos) env = (do
      let ov ← eval oe env
      standAt apos.atName
      let (f, first) ← holding [ov] (getMethod ov x (do return (← importBound oe env).getD true))
      callWith pos f first (backTo pos (starEach es env)) (backToKw pos (keywordEach [] env))) := by exact fun _ => rfl) (hmn : m ≤ n := by decide) : SimEX X n sc (Mine.meth C mi f o ms) (.Call (.Attribute oe x apos) es [] pos) := SimEX.meth hC hx hfi ht hk hp he hf hmn ho hs
theorem dflt_ok {X : Cx} {fd : FuncData} {T : Addr} {items : Array Value} {z : Nat} {s : Shared} {vs : List Value} {binds : List (Str × Value)} {k : Option (Array Value) → Sem (List (Str × Value))} (hd : fd.defaults = .ref T) (hT : X.F.lookup T = some ⟨.type "tuple", none, .seq items z, #[]⟩) (hF : X.F.In s.heap)
    (h₁ : bindArgs fd ⟨vs, []⟩ = seqItems? fd.defaults >>= k) (h₂ : k (some items) = pure binds) : BindsTo s fd ⟨vs, []⟩ binds := BindsTo.of_defaults hd (hF _ _ hT) rfl h₁ h₂
theorem pw_fo (e : Ev) (od : Option Obj) : findObj (XX e).F ((XX e).cls 2) od (.ofString "window") = some (.bind (.builtin "property.__get__") (.ref 511)) := by kernel_rfl
theorem pw_rec (e : Ev) : recIn (XX e).F 511 "property" = some (.ref 510 :: [.none, .none, .none, .str (.ofString "window") 858, .bool false]) := by kernel_rfl
theorem loc_all {e : Ev} {names : List (Str × NameKind)} {ps : List Nat} (h : (ps.all fun p => decide (names.lookup (nmOf nmTab p) = some .local)) = true) : ∀ p ∈ ps, names.lookup ((XX e).nm p) = some .local := fun p hp => of_decide_eq_true (List.all_eq_true.mp h p hp)
theorem s_Sender_window (e : Ev) : FnSim (XX e) 2 f_Sender_window 510 1 := by
  have l_self : Lo D510 "self" := by kernel_rfl
  exact FnSim.m0 e 1 1 D510 rfl (fun _ _ => .of_eq (by kernel_rfl)) (.one (.ret (.at c_PeerWindow n_5 fa_PeerWindow_size (.at c_Sender n_3 fa_Sender_peer (.lo n_1 l_self)))))
theorem s_Limits___init__ (e : Ev) : FnSim (XX e) 2 f_Limits___init__ 860 11 := by
  have l_ack_delay : Lo D860 "ack_delay" := by kernel_rfl
  have l_first_timeout : Lo D860 "first_timeout" := by kernel_rfl
  have l_least_timeout : Lo D860 "least_timeout" := by kernel_rfl
  have l_most_timeout : Lo D860 "most_timeout" := by kernel_rfl
  have l_most_tries : Lo D860 "most_tries" := by kernel_rfl
  have l_mss : Lo D860 "mss" := by kernel_rfl
  have l_receive_room : Lo D860 "receive_room" := by kernel_rfl
  have l_ring : Lo D860 "ring" := by kernel_rfl
  have l_self : Lo D860 "self" := by kernel_rfl
  have l_send_room : Lo D860 "send_room" := by kernel_rfl
  have l_time_wait : Lo D860 "time_wait" := by kernel_rfl
  exact FnSim.m0 e 1 11 D860 rfl (fun _ _ _ _ _ _ _ _ _ _ _ _ => .of_eq (by kernel_rfl)) (.cons (.as (.attr c_Limits n_7 tk_Limits_ring (.lo n_1 l_self)) (.lo n_7 l_ring)) (.cons (.as (.attr c_Limits n_9 tk_Limits_mss (.lo n_1 l_self)) (.lo n_9 l_mss)) (.cons (.as (.attr c_Limits n_10 tk_Limits_send_room (.lo n_1 l_self)) (.lo n_10 l_send_room)) (.cons (.as (.attr c_Limits n_11 tk_Limits_receive_room (.lo n_1 l_self)) (.lo n_11 l_receive_room)) (.cons (.as (.attr c_Limits n_12 tk_Limits_first_timeout (.lo n_1 l_self)) (.lo n_12 l_first_timeout)) (.cons (.as (.attr c_Limits n_13 tk_Limits_least_timeout (.lo n_1 l_self)) (.lo n_13 l_least_timeout)) (.cons (.as (.attr c_Limits n_14 tk_Limits_most_timeout (.lo n_1 l_self)) (.lo n_14 l_most_timeout)) (.cons (.as (.attr c_Limits n_15 tk_Limits_most_tries (.lo n_1 l_self)) (.lo n_15 l_most_tries)) (.cons (.as (.attr c_Limits n_16 tk_Limits_ack_delay (.lo n_1 l_self)) (.lo n_16 l_ack_delay)) (.one (.as (.attr c_Limits n_17 tk_Limits_time_wait (.lo n_1 l_self)) (.lo n_17 l_time_wait))))))))))))
theorem s_PeerWindow___init__ (e : Ev) : FnSim (XX e) 2 f_PeerWindow___init__ 468 2 := by
  have l_ring : Lo D468 "ring" := by kernel_rfl
  have l_self : Lo D468 "self" := by kernel_rfl
  exact FnSim.m0 e 1 2 D468 rfl (fun _ _ _ => .of_eq (by kernel_rfl)) (.cons (.as (.attr c_PeerWindow n_7 tk_PeerWindow_ring (.lo n_1 l_self)) (.lo n_7 l_ring)) (.cons (.as (.attr c_PeerWindow n_5 tk_PeerWindow_size (.lo n_1 l_self)) .int) (.cons (.as (.attr c_PeerWindow n_27 tk_PeerWindow_most (.lo n_1 l_self)) .int) (.cons (.as (.attr c_PeerWindow n_28 tk_PeerWindow_told_seq (.lo n_1 l_self)) SimE.none') (.one (.as (.attr c_PeerWindow n_29 tk_PeerWindow_told_ack (.lo n_1 l_self)) .int))))))
theorem s_SendQueue___init__ (e : Ev) : FnSim (XX e) 2 f_SendQueue___init__ 412 2 := by
  have l_room : Lo D412 "room" := by kernel_rfl
  have l_self : Lo D412 "self" := by kernel_rfl
  exact FnSim.m0 e 1 2 D412 rfl (fun _ _ _ => .of_eq (by kernel_rfl)) (.cons (.ite (.rel op_lt rfl (.lo n_30 l_room) .int) (.one .bad) .nil) (.cons (.as (.attr c_SendQueue n_30 tk_SendQueue_room (.lo n_1 l_self)) (.lo n_30 l_room)) (.one (.as (.attr c_SendQueue n_32 tk_SendQueue_held (.lo n_1 l_self)) (.bytes (by kernel_rfl) (by decide))))))
theorem s_Sender___init__ (e : Ev) : FnSim (XX e) 4 f_Sender___init__ 503 5 := by
  have l_iss : Lo D503 "iss" := by kernel_rfl
  have l_mss : Lo D503 "mss" := by kernel_rfl
  have l_ring : Lo D503 "ring" := by kernel_rfl
  have l_room : Lo D503 "room" := by kernel_rfl
  have l_self : Lo D503 "self" := by kernel_rfl
  have y_PeerWindow : Gl D503 "PeerWindow" := by kernel_rfl
  have y_SendQueue : Gl D503 "SendQueue" := by kernel_rfl
  exact FnSim.m0 e 3 5 D503 rfl (fun _ _ _ _ _ _ => .of_eq (by kernel_rfl)) (.cons (.as (.attr c_Sender n_23 tk_Sender_iss (.lo n_1 l_self)) (.lo n_23 l_iss)) (.cons (.as (.attr c_Sender n_7 tk_Sender_ring (.lo n_1 l_self)) (.lo n_7 l_ring)) (.cons (.as (.attr c_Sender n_9 tk_Sender_mss (.lo n_1 l_self)) (.lo n_9 l_mss)) (.cons (.as (.attr c_Sender n_24 tk_Sender_una (.lo n_1 l_self)) (.lo n_23 l_iss)) (.cons (.as (.attr c_Sender n_25 tk_Sender_next (.lo n_1 l_self)) (.lo n_23 l_iss)) (.cons (.as (.attr c_Sender n_26 tk_Sender_greatest (.lo n_1 l_self)) (.lo n_23 l_iss)) (.cons (.as (.attr c_Sender n_3 tk_Sender_peer (.lo n_1 l_self)) (.cc g_PeerWindow y_PeerWindow kc_PeerWindow mk_PeerWindow fm_PeerWindow___init__ ty_468 (s_PeerWindow___init__ e) (.c (.lo n_7 l_ring) .nil))) (.cons (.as (.attr c_Sender n_33 tk_Sender_queue (.lo n_1 l_self)) (.cc g_SendQueue y_SendQueue kc_SendQueue mk_SendQueue fm_SendQueue___init__ ty_412 (s_SendQueue___init__ e) (.c (.lo n_30 l_room) .nil))) (.cons (.as (.attr c_Sender n_34 tk_Sender_syn_pending (.lo n_1 l_self)) .tt) (.cons (.as (.attr c_Sender n_35 tk_Sender_fin_asked (.lo n_1 l_self)) .ff) (.one (.as (.attr c_Sender n_36 tk_Sender_fin_sent (.lo n_1 l_self)) .ff))))))))))))
theorem s_RttEstimate___init__ (e : Ev) : FnSim (XX e) 2 f_RttEstimate___init__ 356 4 := by
  have l_first : Lo D356 "first" := by kernel_rfl
  have l_least : Lo D356 "least" := by kernel_rfl
  have l_most : Lo D356 "most" := by kernel_rfl
  have l_self : Lo D356 "self" := by kernel_rfl
  exact FnSim.m0 e 1 4 D356 rfl (fun _ _ _ _ _ => .of_eq (by kernel_rfl)) (.cons (.as (.attr c_RttEstimate n_39 tk_RttEstimate_first (.lo n_1 l_self)) (.lo n_39 l_first)) (.cons (.as (.attr c_RttEstimate n_41 tk_RttEstimate_least (.lo n_1 l_self)) (.lo n_41 l_least)) (.cons (.as (.attr c_RttEstimate n_27 tk_RttEstimate_most (.lo n_1 l_self)) (.lo n_27 l_most)) (.cons (.as (.attr c_RttEstimate n_42 tk_RttEstimate_mean8 (.lo n_1 l_self)) .int) (.cons (.as (.attr c_RttEstimate n_43 tk_RttEstimate_spread4 (.lo n_1 l_self)) .int) (.one (.as (.attr c_RttEstimate n_44 tk_RttEstimate_measured (.lo n_1 l_self)) .int)))))))
theorem s_RetransmitClock___init__ (e : Ev) : FnSim (XX e) 2 f_RetransmitClock___init__ 279 3 := by
  have l_estimate : Lo D279 "estimate" := by kernel_rfl
  have l_most_tries : Lo D279 "most_tries" := by kernel_rfl
  have l_self : Lo D279 "self" := by kernel_rfl
  exact FnSim.m0 e 1 3 D279 rfl (fun _ _ _ _ => .of_eq (by kernel_rfl)) (.cons (.as (.attr c_RetransmitClock n_45 tk_RetransmitClock_estimate (.lo n_1 l_self)) (.lo n_45 l_estimate)) (.cons (.as (.attr c_RetransmitClock n_15 tk_RetransmitClock_most_tries (.lo n_1 l_self)) (.lo n_15 l_most_tries)) (.cons (.as (.attr c_RetransmitClock n_6 tk_RetransmitClock_tries (.lo n_1 l_self)) .int) (.cons (.as (.attr c_RetransmitClock n_47 tk_RetransmitClock_timed_end (.lo n_1 l_self)) SimE.none') (.one (.as (.attr c_RetransmitClock n_48 tk_RetransmitClock_timed_at (.lo n_1 l_self)) .int))))))
theorem s_clock_of (e : Ev) : FnSim (XX e) 4 f_clock_of 874 1 := by
  have l_estimate : Lo D874 "estimate" := by kernel_rfl
  have l_limits : Lo D874 "limits" := by kernel_rfl
  have y_RetransmitClock : Gl D874 "RetransmitClock" := by kernel_rfl
  have y_RttEstimate : Gl D874 "RttEstimate" := by kernel_rfl
  exact FnSim.m0 e 3 1 D874 rfl (fun _ _ => .of_eq (by kernel_rfl)) (.cons (.an n_45 l_estimate (.cc g_RttEstimate y_RttEstimate kc_RttEstimate mk_RttEstimate fm_RttEstimate___init__ ty_356 (s_RttEstimate___init__ e) (.c (.at c_Limits n_12 fa_Limits_first_timeout (.lo n_18 l_limits)) (.c (.at c_Limits n_13 fa_Limits_least_timeout (.lo n_18 l_limits)) (.c (.at c_Limits n_14 fa_Limits_most_timeout (.lo n_18 l_limits)) .nil))))) (.one (.ret (.cc g_RetransmitClock y_RetransmitClock kc_RetransmitClock mk_RetransmitClock fm_RetransmitClock___init__ ty_279 (s_RetransmitClock___init__ e) (.c (.lo n_45 l_estimate) (.c (.at c_Limits n_15 fa_Limits_most_tries (.lo n_18 l_limits)) .nil))))))
theorem s_Congestion___init__ (e : Ev) : FnSim (XX e) 2 f_Congestion___init__ 195 4 := by
  have l_first : Lo D195 "first" := by kernel_rfl
  have l_most : Lo D195 "most" := by kernel_rfl
  have l_mss : Lo D195 "mss" := by kernel_rfl
  have l_self : Lo D195 "self" := by kernel_rfl
  exact FnSim.m0 e 1 4 D195 rfl (fun _ _ _ _ _ => .of_eq (by kernel_rfl)) (.cons (.as (.attr c_Congestion n_9 tk_Congestion_mss (.lo n_1 l_self)) (.lo n_9 l_mss)) (.cons (.as (.attr c_Congestion n_27 tk_Congestion_most (.lo n_1 l_self)) (.lo n_27 l_most)) (.cons (.as (.attr c_Congestion n_5 tk_Congestion_size (.lo n_1 l_self)) (.lo n_39 l_first)) (.cons (.as (.attr c_Congestion n_51 tk_Congestion_threshold (.lo n_1 l_self)) (.lo n_27 l_most)) (.cons (.as (.attr c_Congestion n_52 tk_Congestion_gathered (.lo n_1 l_self)) .int) (.cons (.as (.attr c_Congestion n_53 tk_Congestion_duplicates (.lo n_1 l_self)) .int) (.cons (.as (.attr c_Congestion n_54 tk_Congestion_is_recovering (.lo n_1 l_self)) .ff) (.one (.as (.attr c_Congestion n_55 tk_Congestion_is_cautious (.lo n_1 l_self)) .ff)))))))))
theorem s_AckPolicy___init__ (e : Ev) : FnSim (XX e) 2 f_AckPolicy___init__ 138 2 := by
  have l_delay : Lo D138 "delay" := by kernel_rfl
  have l_self : Lo D138 "self" := by kernel_rfl
  exact FnSim.m0 e 1 2 D138 rfl (fun _ _ _ => .of_eq (by kernel_rfl)) (.cons (.as (.attr c_AckPolicy n_57 tk_AckPolicy_delay (.lo n_1 l_self)) (.lo n_57 l_delay)) (.cons (.as (.attr c_AckPolicy n_59 tk_AckPolicy_waiting (.lo n_1 l_self)) .int) (.cons (.as (.attr c_AckPolicy n_60 tk_AckPolicy_due (.lo n_1 l_self)) SimE.none') (.one (.as (.attr c_AckPolicy n_61 tk_AckPolicy_has_gap (.lo n_1 l_self)) .ff)))))
theorem s_Wheel___init__ (e : Ev) : FnSim (XX e) 2 f_Wheel___init__ 792 1 := by
  have l_self : Lo D792 "self" := by kernel_rfl
  have l_size : Lo D792 "size" := by kernel_rfl
  exact FnSim.mk (n := 1) (N := 1) (o := (fob D792)) (fd := D792) (dv := [.int 16 1253]) (by kernel_rfl) rfl rfl (by kernel_rfl) (by kernel_rfl) (by kernel_rfl) (by kernel_rfl) (by decide +kernel) rfl rfl (allN_ok fun _ s hF => dflt_ok (X := XX e) (T := 787) (items := #[.int 16 1253]) (z := 0) rfl (by kernel_rfl) hF rfl (by kernel_rfl)) (by decide) (loc_all (by kernel_rfl)) (fun _ => .cons ⟨_, rfl⟩ .nil) (.cons (.as (.attr c_Wheel n_5 tk_Wheel_size (.lo n_1 l_self)) (.lo n_5 l_size)) (.cons (.as (.attr c_Wheel n_65 tk_Wheel_slots (.lo n_1 l_self)) (.comp (by exact fun _ _ => rfl) (by decide +kernel) (by decide +kernel) rfl (by decide +kernel) (by exact fun _ _ => rfl) (.name n_64 (by kernel_rfl)) (.list .nil) (.cb gn_range gb_range (by kernel_rfl) b_range_ok (.c (.lo n_5 (by kernel_rfl)) .nil)))) (.cons (.as (.attr c_Wheel n_66 tk_Wheel_late (.lo n_1 l_self)) (.list .nil)) (.cons (.as (.attr c_Wheel n_67 tk_Wheel_entries (.lo n_1 l_self)) .dict0) (.cons (.as (.attr c_Wheel n_68 tk_Wheel_reached (.lo n_1 l_self)) SimE.none') (.one (.as (.attr c_Wheel n_69 tk_Wheel_given (.lo n_1 l_self)) .int)))))))
theorem s_Tcb___init__ (e : Ev) : FnSim (XX e) 6 f_Tcb___init__ 888 5 := by
  have l_iss : Lo D888 "iss" := by kernel_rfl
  have l_limits : Lo D888 "limits" := by kernel_rfl
  have l_local : Lo D888 "local" := by kernel_rfl
  have l_remote : Lo D888 "remote" := by kernel_rfl
  have l_self : Lo D888 "self" := by kernel_rfl
  have y_AckPolicy : Gl D888 "AckPolicy" := by kernel_rfl
  have y_CLOSED : Gl D888 "CLOSED" := by kernel_rfl
  have y_Congestion : Gl D888 "Congestion" := by kernel_rfl
  have y_Sender : Gl D888 "Sender" := by kernel_rfl
  have y_Wheel : Gl D888 "Wheel" := by kernel_rfl
  have y_clock_of : Gl D888 "clock_of" := by kernel_rfl
  exact FnSim.m0 e 5 5 D888 rfl (fun _ _ _ _ _ _ => .of_eq (by kernel_rfl)) (.cons (.as (.attr c_Tcb n_18 tk_Tcb_limits (.lo n_1 l_self)) (.lo n_18 l_limits)) (.cons (.as (.attr c_Tcb n_20 tk_Tcb_local (.lo n_1 l_self)) (.lo n_20 l_local)) (.cons (.as (.attr c_Tcb n_21 tk_Tcb_remote (.lo n_1 l_self)) (.lo n_21 l_remote)) (.cons (.as (.attr c_Tcb n_22 tk_Tcb_state (.lo n_1 l_self)) (.gl g_CLOSED (fun _ => ⟨_, by rw [t_1]⟩) y_CLOSED)) (.cons (.as (.attr c_Tcb n_37 tk_Tcb_sender (.lo n_1 l_self)) (.cc g_Sender y_Sender kc_Sender mk_Sender fm_Sender___init__ ty_503 (s_Sender___init__ e) (.c (.lo n_23 l_iss) (.c (.at c_Limits n_7 fa_Limits_ring (.lo n_18 l_limits)) (.c (.at c_Limits n_9 fa_Limits_mss (.lo n_18 l_limits)) (.c (.at c_Limits n_10 fa_Limits_send_room (.lo n_18 l_limits)) .nil)))))) (.cons (.as (.attr c_Tcb n_38 tk_Tcb_receiver (.lo n_1 l_self)) SimE.none') (.cons (.as (.attr c_Tcb n_49 tk_Tcb_clock (.lo n_1 l_self)) (.cf g_clock_of y_clock_of kp_874 (s_clock_of e) (.c (.lo n_18 l_limits) .nil))) (.cons (.as (.attr c_Tcb n_56 tk_Tcb_congestion (.lo n_1 l_self)) (.cc g_Congestion y_Congestion kc_Congestion mk_Congestion fm_Congestion___init__ ty_195 (s_Congestion___init__ e) (.c (.at c_Limits n_9 fa_Limits_mss (.lo n_18 l_limits)) (.c (.bin op_mul .int (.at c_Limits n_9 fa_Limits_mss (.lo n_18 l_limits))) (.c (.bin op_add (.at c_Limits n_10 fa_Limits_send_room (.lo n_18 l_limits)) (.at c_Limits n_9 fa_Limits_mss (.lo n_18 l_limits))) .nil))))) (.cons (.as (.attr c_Tcb n_62 tk_Tcb_acks (.lo n_1 l_self)) (.cc g_AckPolicy y_AckPolicy kc_AckPolicy mk_AckPolicy fm_AckPolicy___init__ ty_138 (s_AckPolicy___init__ e) (.c (.at c_Limits n_16 fa_Limits_ack_delay (.lo n_18 l_limits)) .nil))) (.cons (.as (.attr c_Tcb n_70 tk_Tcb_wheel (.lo n_1 l_self)) (.cc g_Wheel y_Wheel kc_Wheel mk_Wheel fm_Wheel___init__ ty_792 (s_Wheel___init__ e) .nil)) (.cons (.as (.attr c_Tcb n_71 tk_Tcb_error (.lo n_1 l_self)) SimE.none') (.cons (.as (.attr c_Tcb n_72 tk_Tcb_probes (.lo n_1 l_self)) .int) (.cons (.as (.attr c_Tcb n_73 tk_Tcb_unanswered (.lo n_1 l_self)) .int) (.one (.as (.attr c_Tcb n_74 tk_Tcb_is_nagle (.lo n_1 l_self)) .tt)))))))))))))))
theorem s_opening_steps (e : Ev) : DFn (XX e) 2 751 [([1,3], (.str 3)), ([1,2], (.str 4)), ([3,2], (.str 4)), ([3,5], (.str 6)), ([4,5], (.str 6)), ([4,7], (.str 8)), ([6,9], (.str 8))] := by
  have y_CLOSED : Gl D751 "CLOSED" := by kernel_rfl
  have y_ESTABLISHED : Gl D751 "ESTABLISHED" := by kernel_rfl
  have y_LISTEN : Gl D751 "LISTEN" := by kernel_rfl
  have y_SYN_RECEIVED : Gl D751 "SYN_RECEIVED" := by kernel_rfl
  have y_SYN_SENT : Gl D751 "SYN_SENT" := by kernel_rfl
  exact DFn.mk (o := (fob D751)) (fd := D751) (by kernel_rfl) rfl rfl (by kernel_rfl) (by kernel_rfl) (by kernel_rfl) (by kernel_rfl) (by decide +kernel) rfl rfl (fun s hF => BindsTo.of_eq (by kernel_rfl)) (DictE.short (.cons (.c (.gl g_CLOSED (fun _ => ⟨_, by rw [t_1]⟩) y_CLOSED) (.c (.str t_3) .nil)) (.gl g_LISTEN (fun _ => ⟨_, by rw [t_3]⟩) y_LISTEN) (.cons (.c (.gl g_CLOSED (fun _ => ⟨_, by rw [t_1]⟩) y_CLOSED) (.c (.str t_2) .nil)) (.gl g_SYN_SENT (fun _ => ⟨_, by rw [t_4]⟩) y_SYN_SENT) (.cons (.c (.gl g_LISTEN (fun _ => ⟨_, by rw [t_3]⟩) y_LISTEN) (.c (.str t_2) .nil)) (.gl g_SYN_SENT (fun _ => ⟨_, by rw [t_4]⟩) y_SYN_SENT) (.cons (.c (.gl g_LISTEN (fun _ => ⟨_, by rw [t_3]⟩) y_LISTEN) (.c (.str t_5) .nil)) (.gl g_SYN_RECEIVED (fun _ => ⟨_, by rw [t_6]⟩) y_SYN_RECEIVED) (.cons (.c (.gl g_SYN_SENT (fun _ => ⟨_, by rw [t_4]⟩) y_SYN_SENT) (.c (.str t_5) .nil)) (.gl g_SYN_RECEIVED (fun _ => ⟨_, by rw [t_6]⟩) y_SYN_RECEIVED) (.cons (.c (.gl g_SYN_SENT (fun _ => ⟨_, by rw [t_4]⟩) y_SYN_SENT) (.c (.str t_7) .nil)) (.gl g_ESTABLISHED (fun _ => ⟨_, by rw [t_8]⟩) y_ESTABLISHED) (.cons (.c (.gl g_SYN_RECEIVED (fun _ => ⟨_, by rw [t_6]⟩) y_SYN_RECEIVED) (.c (.str t_9) .nil)) (.gl g_ESTABLISHED (fun _ => ⟨_, by rw [t_8]⟩) y_ESTABLISHED) .nil))))))) (by decide) (by simp) (by decide))
theorem s_closing_steps (e : Ev) : DFn (XX e) 2 758 [([3,10], (.str 1)), ([4,10], (.str 1)), ([6,10], (.str 11)), ([8,10], (.str 11)), ([12,10], (.str 13)), ([6,14], (.str 12)), ([8,14], (.str 12)), ([11,14], (.str 15)), ([16,14], (.str 17)), ([12,14], (.str 12)), ([15,14], (.str 15)), ([13,14], (.str 13)), ([17,14], (.str 17)), ([11,18], (.str 16)), ([15,18], (.str 17)), ([13,18], (.str 1)), ([11,19], (.str 17)), ([17,20], (.str 1))] := by
  have y_CLOSED : Gl D758 "CLOSED" := by kernel_rfl
  have y_CLOSE_WAIT : Gl D758 "CLOSE_WAIT" := by kernel_rfl
  have y_CLOSING : Gl D758 "CLOSING" := by kernel_rfl
  have y_ESTABLISHED : Gl D758 "ESTABLISHED" := by kernel_rfl
  have y_FIN_WAIT_1 : Gl D758 "FIN_WAIT_1" := by kernel_rfl
  have y_FIN_WAIT_2 : Gl D758 "FIN_WAIT_2" := by kernel_rfl
  have y_LAST_ACK : Gl D758 "LAST_ACK" := by kernel_rfl
  have y_LISTEN : Gl D758 "LISTEN" := by kernel_rfl
  have y_SYN_RECEIVED : Gl D758 "SYN_RECEIVED" := by kernel_rfl
  have y_SYN_SENT : Gl D758 "SYN_SENT" := by kernel_rfl
  have y_TIME_WAIT : Gl D758 "TIME_WAIT" := by kernel_rfl
  refine DFn.mk (o := (fob D758)) (fd := D758) (by kernel_rfl) rfl rfl (by kernel_rfl) (by kernel_rfl) (by kernel_rfl) (by kernel_rfl) (by decide +kernel) rfl rfl (fun s hF => BindsTo.of_eq (by kernel_rfl)) ?_
  refine DictE.long3 ?_ ?_ ?_
  rotate_left
  · decide +kernel
  · kernel_rfl
  exact (.cons (.c (.gl g_LISTEN (fun _ => ⟨_, by rw [t_3]⟩) y_LISTEN) (.c (.str t_10) .nil)) (.gl g_CLOSED (fun _ => ⟨_, by rw [t_1]⟩) y_CLOSED) (.cons (.c (.gl g_SYN_SENT (fun _ => ⟨_, by rw [t_4]⟩) y_SYN_SENT) (.c (.str t_10) .nil)) (.gl g_CLOSED (fun _ => ⟨_, by rw [t_1]⟩) y_CLOSED) (.cons (.c (.gl g_SYN_RECEIVED (fun _ => ⟨_, by rw [t_6]⟩) y_SYN_RECEIVED) (.c (.str t_10) .nil)) (.gl g_FIN_WAIT_1 (fun _ => ⟨_, by rw [t_11]⟩) y_FIN_WAIT_1) (.cons (.c (.gl g_ESTABLISHED (fun _ => ⟨_, by rw [t_8]⟩) y_ESTABLISHED) (.c (.str t_10) .nil)) (.gl g_FIN_WAIT_1 (fun _ => ⟨_, by rw [t_11]⟩) y_FIN_WAIT_1) (.cons (.c (.gl g_CLOSE_WAIT (fun _ => ⟨_, by rw [t_12]⟩) y_CLOSE_WAIT) (.c (.str t_10) .nil)) (.gl g_LAST_ACK (fun _ => ⟨_, by rw [t_13]⟩) y_LAST_ACK) (.cons (.c (.gl g_SYN_RECEIVED (fun _ => ⟨_, by rw [t_6]⟩) y_SYN_RECEIVED) (.c (.str t_14) .nil)) (.gl g_CLOSE_WAIT (fun _ => ⟨_, by rw [t_12]⟩) y_CLOSE_WAIT) (.cons (.c (.gl g_ESTABLISHED (fun _ => ⟨_, by rw [t_8]⟩) y_ESTABLISHED) (.c (.str t_14) .nil)) (.gl g_CLOSE_WAIT (fun _ => ⟨_, by rw [t_12]⟩) y_CLOSE_WAIT) (.cons (.c (.gl g_FIN_WAIT_1 (fun _ => ⟨_, by rw [t_11]⟩) y_FIN_WAIT_1) (.c (.str t_14) .nil)) (.gl g_CLOSING (fun _ => ⟨_, by rw [t_15]⟩) y_CLOSING) (.cons (.c (.gl g_FIN_WAIT_2 (fun _ => ⟨_, by rw [t_16]⟩) y_FIN_WAIT_2) (.c (.str t_14) .nil)) (.gl g_TIME_WAIT (fun _ => ⟨_, by rw [t_17]⟩) y_TIME_WAIT) (.cons (.c (.gl g_CLOSE_WAIT (fun _ => ⟨_, by rw [t_12]⟩) y_CLOSE_WAIT) (.c (.str t_14) .nil)) (.gl g_CLOSE_WAIT (fun _ => ⟨_, by rw [t_12]⟩) y_CLOSE_WAIT) (.cons (.c (.gl g_CLOSING (fun _ => ⟨_, by rw [t_15]⟩) y_CLOSING) (.c (.str t_14) .nil)) (.gl g_CLOSING (fun _ => ⟨_, by rw [t_15]⟩) y_CLOSING) (.cons (.c (.gl g_LAST_ACK (fun _ => ⟨_, by rw [t_13]⟩) y_LAST_ACK) (.c (.str t_14) .nil)) (.gl g_LAST_ACK (fun _ => ⟨_, by rw [t_13]⟩) y_LAST_ACK) (.cons (.c (.gl g_TIME_WAIT (fun _ => ⟨_, by rw [t_17]⟩) y_TIME_WAIT) (.c (.str t_14) .nil)) (.gl g_TIME_WAIT (fun _ => ⟨_, by rw [t_17]⟩) y_TIME_WAIT) (.cons (.c (.gl g_FIN_WAIT_1 (fun _ => ⟨_, by rw [t_11]⟩) y_FIN_WAIT_1) (.c (.str t_18) .nil)) (.gl g_FIN_WAIT_2 (fun _ => ⟨_, by rw [t_16]⟩) y_FIN_WAIT_2) (.cons (.c (.gl g_CLOSING (fun _ => ⟨_, by rw [t_15]⟩) y_CLOSING) (.c (.str t_18) .nil)) (.gl g_TIME_WAIT (fun _ => ⟨_, by rw [t_17]⟩) y_TIME_WAIT) (.cons (.c (.gl g_LAST_ACK (fun _ => ⟨_, by rw [t_13]⟩) y_LAST_ACK) (.c (.str t_18) .nil)) (.gl g_CLOSED (fun _ => ⟨_, by rw [t_1]⟩) y_CLOSED) (.cons (.c (.gl g_FIN_WAIT_1 (fun _ => ⟨_, by rw [t_11]⟩) y_FIN_WAIT_1) (.c (.str t_19) .nil)) (.gl g_TIME_WAIT (fun _ => ⟨_, by rw [t_17]⟩) y_TIME_WAIT) (.cons (.c (.gl g_TIME_WAIT (fun _ => ⟨_, by rw [t_17]⟩) y_TIME_WAIT) (.c (.str t_20) .nil)) (.gl g_CLOSED (fun _ => ⟨_, by rw [t_1]⟩) y_CLOSED) .nil))))))))))))))))))
theorem s_follow (e : Ev) : FnSim (XX e) 3 f_follow 765 2 := by
  have l_event : Lo D765 "event" := by kernel_rfl
  have l_found : Lo D765 "found" := by kernel_rfl
  have l_state : Lo D765 "state" := by kernel_rfl
  have y_CLOSED : Gl D765 "CLOSED" := by kernel_rfl
  have y_LISTEN : Gl D765 "LISTEN" := by kernel_rfl
  have y_TIME_WAIT : Gl D765 "TIME_WAIT" := by kernel_rfl
  have y_closing_steps : Gl D765 "closing_steps" := by kernel_rfl
  have y_opening_steps : Gl D765 "opening_steps" := by kernel_rfl
  exact FnSim.m0 e 2 2 D765 rfl (fun _ _ _ => .of_eq (by kernel_rfl)) (.cons (.ite (.rel op_eq rfl (.lo n_76 l_event) (.str t_21)) (.one (.ret (.ifx (.rel op_eq rfl (.lo n_22 l_state) (.gl g_LISTEN (fun _ => ⟨_, by rw [t_3]⟩) y_LISTEN)) (.gl g_LISTEN (fun _ => ⟨_, by rw [t_3]⟩) y_LISTEN) (.ifx (.rel op_eq rfl (.lo n_22 l_state) (.gl g_CLOSED (fun _ => ⟨_, by rw [t_1]⟩) y_CLOSED)) SimE.none' (.gl g_CLOSED (fun _ => ⟨_, by rw [t_1]⟩) y_CLOSED))))) .nil) (.cons (.ite (.rel op_eq rfl (.lo n_76 l_event) (.str t_22)) (.one (.ret (.ifx (.rel op_eq rfl (.lo n_22 l_state) (.gl g_CLOSED (fun _ => ⟨_, by rw [t_1]⟩) y_CLOSED)) SimE.none' (.gl g_CLOSED (fun _ => ⟨_, by rw [t_1]⟩) y_CLOSED)))) .nil) (.cons (.ite (.rel op_eq rfl (.lo n_76 l_event) (.str t_23)) (.one (.ret (.ifx (.rel op_in rfl (.lo n_22 l_state) (.tup (.c (.gl g_CLOSED (fun _ => ⟨_, by rw [t_1]⟩) y_CLOSED) (.c (.gl g_LISTEN (fun _ => ⟨_, by rw [t_3]⟩) y_LISTEN) (.c (.gl g_TIME_WAIT (fun _ => ⟨_, by rw [t_17]⟩) y_TIME_WAIT) .nil))))) SimE.none' (.gl g_CLOSED (fun _ => ⟨_, by rw [t_1]⟩) y_CLOSED)))) .nil) (.cons (.an n_77 l_found (.tget g_opening_steps y_opening_steps.l y_opening_steps.d kp_751 (by exact fun _ => rfl) (s_opening_steps e) (by decide) (by decide) (.c (.lo n_22 l_state) (.c (.lo n_76 l_event) .nil)))) (.one (.ret (.ifx (.isNone (.lo n_77 l_found)) (.tget g_closing_steps y_closing_steps.l y_closing_steps.d kp_758 (by exact fun _ => rfl) (s_closing_steps e) (by decide) (by decide) (.c (.lo n_22 l_state) (.c (.lo n_76 l_event) .nil))) (.lo n_77 l_found))))))))
theorem s_change_state (e : Ev) : FnSim (XX e) 4 f_change_state 917 2 := by
  have l_event : Lo D917 "event" := by kernel_rfl
  have l_state : Lo D917 "state" := by kernel_rfl
  have l_tcb : Lo D917 "tcb" := by kernel_rfl
  have y_follow : Gl D917 "follow" := by kernel_rfl
  exact FnSim.m0 e 3 2 D917 rfl (fun _ _ _ => .of_eq (by kernel_rfl)) (.cons (.an n_22 l_state (.cf g_follow y_follow kp_765 (s_follow e) (.c (.at c_Tcb n_22 fa_Tcb_state (.lo n_75 l_tcb)) (.c (.lo n_76 l_event) .nil)))) (.cons (.ite (.isNone (.lo n_22 l_state)) (.one .bad) .nil) (.one (.as (.attr c_Tcb n_22 tk_Tcb_state (.lo n_75 l_tcb)) (.lo n_22 l_state)))))
theorem s_is_sending (e : Ev) : FnSim (XX e) 2 f_is_sending 779 1 := by
  have l_state : Lo D779 "state" := by kernel_rfl
  have y_CLOSE_WAIT : Gl D779 "CLOSE_WAIT" := by kernel_rfl
  have y_CLOSING : Gl D779 "CLOSING" := by kernel_rfl
  have y_ESTABLISHED : Gl D779 "ESTABLISHED" := by kernel_rfl
  have y_FIN_WAIT_1 : Gl D779 "FIN_WAIT_1" := by kernel_rfl
  have y_LAST_ACK : Gl D779 "LAST_ACK" := by kernel_rfl
  exact FnSim.m0 e 1 1 D779 rfl (fun _ _ => .of_eq (by kernel_rfl)) (.one (.ret (.val (.rel op_in rfl (.lo n_22 l_state) (.tup (.c (.gl g_ESTABLISHED (fun _ => ⟨_, by rw [t_8]⟩) y_ESTABLISHED) (.c (.gl g_FIN_WAIT_1 (fun _ => ⟨_, by rw [t_11]⟩) y_FIN_WAIT_1) (.c (.gl g_CLOSE_WAIT (fun _ => ⟨_, by rw [t_12]⟩) y_CLOSE_WAIT) (.c (.gl g_CLOSING (fun _ => ⟨_, by rw [t_15]⟩) y_CLOSING) (.c (.gl g_LAST_ACK (fun _ => ⟨_, by rw [t_13]⟩) y_LAST_ACK) .nil))))))))))
theorem s_take_asked_fin (e : Ev) : FnSim (XX e) 4 f_take_asked_fin 994 1 := by
  have l_state : Lo D994 "state" := by kernel_rfl
  have l_tcb : Lo D994 "tcb" := by kernel_rfl
  have y_follow : Gl D994 "follow" := by kernel_rfl
  have y_is_sending : Gl D994 "is_sending" := by kernel_rfl
  exact FnSim.m0 e 3 1 D994 rfl (fun _ _ => .of_eq (by kernel_rfl)) (.one (.ite (.and (.truth (.at c_Sender n_35 fa_Sender_fin_asked (.at c_Tcb n_37 fa_Tcb_sender (.lo n_75 l_tcb))) (by exact fun _ _ => rfl)) (.and1 (.truth (.cf g_is_sending y_is_sending kp_779 (s_is_sending e) (.c (.at c_Tcb n_22 fa_Tcb_state (.lo n_75 l_tcb)) .nil)) (by exact fun _ _ => rfl)))) (.cons (.an n_22 l_state (.cf g_follow y_follow kp_765 (s_follow e) (.c (.at c_Tcb n_22 fa_Tcb_state (.lo n_75 l_tcb)) (.c (.str t_10) .nil)))) (.one (.ite (.isNotNone (.lo n_22 l_state)) (.one (.as (.attr c_Tcb n_22 tk_Tcb_state (.lo n_75 l_tcb)) (.lo n_22 l_state))) .nil))) .nil))
theorem s_AckPolicy_on_sent (e : Ev) : FnSim (XX e) 2 f_AckPolicy_on_sent 167 1 := by
  have l_self : Lo D167 "self" := by kernel_rfl
  exact FnSim.m0 e 1 1 D167 rfl (fun _ _ => .of_eq (by kernel_rfl)) (.cons (.as (.attr c_AckPolicy n_59 tk_AckPolicy_waiting (.lo n_1 l_self)) .int) (.one (.as (.attr c_AckPolicy n_60 tk_AckPolicy_due (.lo n_1 l_self)) SimE.none')))
theorem s_Wheel_cancel (e : Ev) : FnSim (XX e) 2 f_Wheel_cancel 813 2 := by
  have l_key : Lo D813 "key" := by kernel_rfl
  have l_keys : Lo D813 "keys" := by kernel_rfl
  have l_order : Lo D813 "order" := by kernel_rfl
  have l_self : Lo D813 "self" := by kernel_rfl
  have l_time : Lo D813 "time" := by kernel_rfl
  exact FnSim.m0 e 1 2 D813 rfl (fun _ _ _ => .of_eq (by kernel_rfl)) (.one (.ite (.rel op_in rfl (.lo n_83 l_key) (.at c_Wheel n_67 fa_Wheel_entries (.lo n_1 l_self))) (.cons (.as (.tup (by exact fun _ => rfl) (.cons (.name n_84 l_time.l) (.cons (.name n_85 l_order.l) .nil))) (.bmeth (T := 2) PySem.F.plainAttrs_dict PySem.F.slot_dict_pop PySem.F.type_dict_pop (by exact fun _ => rfl) (by exact fun _ => rfl) b_popD (.at c_Wheel n_67 fa_Wheel_entries (.lo n_1 l_self)) (.lo n_83 l_key))) (.one (.for_ (by exact fun _ _ => rfl) (by exact fun _ _ => rfl) (.name n_86 l_keys.l) (.tup (.c (.at c_Wheel n_66 fa_Wheel_late (.lo n_1 l_self)) (.c (.sub (fun _ _ => by kernel_rfl) (.at c_Wheel n_65 fa_Wheel_slots (.lo n_1 l_self)) (.bin op_mod (.lo n_84 l_time) (.at c_Wheel n_5 fa_Wheel_size (.lo n_1 l_self)))) .nil))) (.one (.ite (.rel op_in rfl (.lo n_83 l_key) (.lo n_86 l_keys)) (.one (.ex (.bmeth (T := 1) PySem.F.plainAttrs_list PySem.F.slot_list_remove PySem.F.type_list_remove (by exact fun _ => rfl) (by exact fun _ => rfl) b_remove (.lo n_86 l_keys) (.lo n_83 l_key)))) .nil))))) .nil))
theorem s_check_number (e : Ev) : FnSim (XX e) 2 f_check_number 737 2 := by
  have l_bits : Lo D737 "bits" := by kernel_rfl
  have l_number : Lo D737 "number" := by kernel_rfl
  exact FnSim.m0 e 1 2 D737 rfl (fun _ _ _ => .of_eq (by kernel_rfl)) (.one (.ite (.or (.rel op_lt rfl (.lo n_89 l_number) .int) (.or1 (.relN op_ne rfl (.bin op_shr (.lo n_89 l_number) (.lo n_90 l_bits)) .int))) (.one .bad) .nil))
theorem s_put16 (e : Ev) : FnSim (XX e) 2 f_put16 687 1 := by
  have l_n : Lo D687 "n" := by kernel_rfl
  have y_bytes : Gl D687 "bytes" := by kernel_rfl
  exact FnSim.m0 e 1 1 D687 rfl (fun _ _ => .of_eq (by kernel_rfl)) (.one (.ret (.cb gn_bytes gb_bytes y_bytes b_bytes_ok (.c (.list (.c (.bin op_and (.bin op_shr (.lo n_88 l_n) .int) .int) (.c (.bin op_and (.lo n_88 l_n) .int) .nil))) .nil))))
theorem s_mss_option (e : Ev) : FnSim (XX e) 3 f_mss_option 744 1 := by
  have l_n : Lo D744 "n" := by kernel_rfl
  have y_MSS_SIZE : Gl D744 "MSS_SIZE" := by kernel_rfl
  have y_OPTION_MSS : Gl D744 "OPTION_MSS" := by kernel_rfl
  have y_bytes : Gl D744 "bytes" := by kernel_rfl
  have y_check_number : Gl D744 "check_number" := by kernel_rfl
  have y_put16 : Gl D744 "put16" := by kernel_rfl
  exact FnSim.m0 e 2 1 D744 rfl (fun _ _ => .of_eq (by kernel_rfl)) (.cons (.ex (.cf g_check_number y_check_number kp_737 (s_check_number e) (.c (.lo n_88 l_n) (.c .int .nil)))) (.one (.ret (.bin op_add (.cb gn_bytes gb_bytes y_bytes b_bytes_ok (.c (.list (.c (.gl g_OPTION_MSS (fun _ => ⟨_, rfl⟩) y_OPTION_MSS) (.c (.gl g_MSS_SIZE (fun _ => ⟨_, rfl⟩) y_MSS_SIZE) .nil))) .nil)) (.cf g_put16 y_put16 kp_687 (s_put16 e) (.c (.lo n_88 l_n) .nil))))))
theorem s_plus (e : Ev) : FnSim (XX e) 2 f_plus 96 3 := by
  have l_a : Lo D96 "a" := by kernel_rfl
  have l_n : Lo D96 "n" := by kernel_rfl
  have l_ring : Lo D96 "ring" := by kernel_rfl
  exact FnSim.m0 e 1 3 D96 rfl (fun _ _ _ _ => .of_eq (by kernel_rfl)) (.one (.ret (.bin op_mod (.bin op_add (.lo n_94 l_a) (.lo n_88 l_n)) (.lo n_7 l_ring))))
theorem s_Receiver_free_edge (e : Ev) : FnSim (XX e) 3 f_Receiver_free_edge 1168 1 := by
  have l_self : Lo D1168 "self" := by kernel_rfl
  have y_len : Gl D1168 "len" := by kernel_rfl
  have y_plus : Gl D1168 "plus" := by kernel_rfl
  exact FnSim.m0 e 2 1 D1168 rfl (fun _ _ => .of_eq (by kernel_rfl)) (.one (.ret (.cf g_plus y_plus kp_96 (s_plus e) (.c (.at c_Receiver n_25 fa_Receiver_next (.lo n_1 l_self)) (.c (.bin op_sub (.at c_Receiver n_30 fa_Receiver_room (.lo n_1 l_self)) (.cb gn_len gb_len y_len b_len_ok (.c (.at c_Receiver n_93 fa_Receiver_ready (.lo n_1 l_self)) .nil))) (.c (.at c_Receiver n_7 fa_Receiver_ring (.lo n_1 l_self)) .nil))))))
theorem s_distance (e : Ev) : FnSim (XX e) 2 f_distance 103 3 := by
  have l_a : Lo D103 "a" := by kernel_rfl
  have l_b : Lo D103 "b" := by kernel_rfl
  have l_ring : Lo D103 "ring" := by kernel_rfl
  exact FnSim.m0 e 1 3 D103 rfl (fun _ _ _ _ => .of_eq (by kernel_rfl)) (.one (.ret (.bin op_mod (.bin op_sub (.lo n_96 l_b) (.lo n_94 l_a)) (.lo n_7 l_ring))))
theorem s_is_before (e : Ev) : FnSim (XX e) 3 f_is_before 110 3 := by
  have l_a : Lo D110 "a" := by kernel_rfl
  have l_b : Lo D110 "b" := by kernel_rfl
  have l_gap : Lo D110 "gap" := by kernel_rfl
  have l_ring : Lo D110 "ring" := by kernel_rfl
  have y_distance : Gl D110 "distance" := by kernel_rfl
  exact FnSim.m0 e 2 3 D110 rfl (fun _ _ _ _ => .of_eq (by kernel_rfl)) (.cons (.an n_97 l_gap (.cf g_distance y_distance kp_103 (s_distance e) (.c (.lo n_94 l_a) (.c (.lo n_96 l_b) (.c (.lo n_7 l_ring) .nil))))) (.one (.ret (.val (.and (.rel op_gt rfl (.lo n_97 l_gap) .int) (.and1 (.rel op_lt rfl (.bin op_mul .int (.lo n_97 l_gap)) (.lo n_7 l_ring))))))))
theorem s_Receiver_should_tell (e : Ev) : FnSim (XX e) 4 f_Receiver_should_tell 1175 2 := by
  have l_mss : Lo D1175 "mss" := by kernel_rfl
  have l_self : Lo D1175 "self" := by kernel_rfl
  have y_distance : Gl D1175 "distance" := by kernel_rfl
  have y_is_before : Gl D1175 "is_before" := by kernel_rfl
  have y_max : Gl D1175 "max" := by kernel_rfl
  have y_min : Gl D1175 "min" := by kernel_rfl
  exact FnSim.m0 e 3 2 D1175 rfl (fun _ _ _ => .of_eq (by kernel_rfl)) (.cons (.ite (.or (.truth (.at c_Receiver n_98 fa_Receiver_has_fin (.lo n_1 l_self)) (by exact fun _ _ => rfl)) (.or1 (.not (.truth (.cf g_is_before y_is_before kp_110 (s_is_before e) (.c (.at c_Receiver n_92 fa_Receiver_told_edge (.lo n_1 l_self)) (.c (.me c_Receiver n_95 fm_Receiver_free_edge ty_1168 kp_1168 (s_Receiver_free_edge e) (.lo n_1 l_self) .nil) (.c (.at c_Receiver n_7 fa_Receiver_ring (.lo n_1 l_self)) .nil)))) (by exact fun _ _ => rfl))))) (.one (.ret .ff)) .nil) (.one (.ret (.val (.rel op_ge rfl (.cf g_distance y_distance kp_103 (s_distance e) (.c (.at c_Receiver n_92 fa_Receiver_told_edge (.lo n_1 l_self)) (.c (.me c_Receiver n_95 fm_Receiver_free_edge ty_1168 kp_1168 (s_Receiver_free_edge e) (.lo n_1 l_self) .nil) (.c (.at c_Receiver n_7 fa_Receiver_ring (.lo n_1 l_self)) .nil)))) (.cb gn_max gb_max y_max b_max_ok (.c .int (.c (.cb gn_min gb_min y_min b_min_ok (.c (.lo n_9 l_mss) (.c (.bin op_fdv (.at c_Receiver n_30 fa_Receiver_room (.lo n_1 l_self)) .int) .nil))) .nil))))))))
theorem s_Receiver_told_window (e : Ev) : FnSim (XX e) 4 f_Receiver_told_window 1182 1 := by
  have l_self : Lo D1182 "self" := by kernel_rfl
  have y_distance : Gl D1182 "distance" := by kernel_rfl
  have y_is_before : Gl D1182 "is_before" := by kernel_rfl
  exact FnSim.m0 e 3 1 D1182 rfl (fun _ _ => .of_eq (by kernel_rfl)) (.cons (.ite (.truth (.cf g_is_before y_is_before kp_110 (s_is_before e) (.c (.at c_Receiver n_92 fa_Receiver_told_edge (.lo n_1 l_self)) (.c (.at c_Receiver n_25 fa_Receiver_next (.lo n_1 l_self)) (.c (.at c_Receiver n_7 fa_Receiver_ring (.lo n_1 l_self)) .nil)))) (by exact fun _ _ => rfl)) (.one (.ret .int)) .nil) (.one (.ret (.cf g_distance y_distance kp_103 (s_distance e) (.c (.at c_Receiver n_25 fa_Receiver_next (.lo n_1 l_self)) (.c (.at c_Receiver n_92 fa_Receiver_told_edge (.lo n_1 l_self)) (.c (.at c_Receiver n_7 fa_Receiver_ring (.lo n_1 l_self)) .nil)))))))
theorem s_Receiver_window (e : Ev) : FnSim (XX e) 5 f_Receiver_window 1189 1 := by
  have l_self : Lo D1189 "self" := by kernel_rfl
  exact FnSim.m0 e 4 1 D1189 rfl (fun _ _ => .of_eq (by kernel_rfl)) (.cons (.ite (.truth (.me c_Receiver n_99 fm_Receiver_should_tell ty_1175 kp_1175 (s_Receiver_should_tell e) (.lo n_1 l_self) (.c (.at c_Receiver n_9 fa_Receiver_mss (.lo n_1 l_self)) .nil)) (by exact fun _ _ => rfl)) (.one (.as (.attr c_Receiver n_92 tk_Receiver_told_edge (.lo n_1 l_self)) (.me c_Receiver n_95 fm_Receiver_free_edge ty_1168 kp_1168 (s_Receiver_free_edge e) (.lo n_1 l_self) .nil))) .nil) (.one (.ret (.me c_Receiver n_100 fm_Receiver_told_window ty_1182 kp_1182 (s_Receiver_told_window e) (.lo n_1 l_self) .nil))))
theorem s_Tcb_window_now (e : Ev) : FnSim (XX e) 6 f_Tcb_window_now 895 1 := by
  have l_self : Lo D895 "self" := by kernel_rfl
  have y_MOST_WINDOW : Gl D895 "MOST_WINDOW" := by kernel_rfl
  have y_min : Gl D895 "min" := by kernel_rfl
  exact FnSim.m0 e 5 1 D895 rfl (fun _ _ => .of_eq (by kernel_rfl)) (.cons (.ite (.isNone (.at c_Tcb n_38 fa_Tcb_receiver (.lo n_1 l_self))) (.one (.ret (.cb gn_min gb_min y_min b_min_ok (.c (.at c_Limits n_11 fa_Limits_receive_room (.at c_Tcb n_18 fa_Tcb_limits (.lo n_1 l_self))) (.c (.gl g_MOST_WINDOW (fun _ => ⟨_, rfl⟩) y_MOST_WINDOW) .nil))))) .nil) (.one (.ret (.cb gn_min gb_min y_min b_min_ok (.c (.me c_Receiver n_101 fm_Receiver_window ty_1189 kp_1189 (s_Receiver_window e) (.at c_Tcb n_38 fa_Tcb_receiver (.lo n_1 l_self)) .nil) (.c (.gl g_MOST_WINDOW (fun _ => ⟨_, rfl⟩) y_MOST_WINDOW) .nil))))))
theorem s_Segment___init__ (e : Ev) : FnSim (XX e) 2 f_Segment___init__ 702 10 := by
  have l_ack : Lo D702 "ack" := by kernel_rfl
  have l_flags : Lo D702 "flags" := by kernel_rfl
  have l_options : Lo D702 "options" := by kernel_rfl
  have l_payload : Lo D702 "payload" := by kernel_rfl
  have l_self : Lo D702 "self" := by kernel_rfl
  have l_seq : Lo D702 "seq" := by kernel_rfl
  have l_source_port : Lo D702 "source_port" := by kernel_rfl
  have l_target_port : Lo D702 "target_port" := by kernel_rfl
  have l_urgent : Lo D702 "urgent" := by kernel_rfl
  have l_window : Lo D702 "window" := by kernel_rfl
  exact FnSim.mk (n := 1) (N := 10) (o := (fob D702)) (fd := D702) (dv := [.int 0 1106, .bytes #[] 1107, .bytes #[] 1108]) (by kernel_rfl) rfl rfl (by kernel_rfl) (by kernel_rfl) (by kernel_rfl) (by kernel_rfl) (by decide +kernel) rfl rfl (allN_ok fun _ _ _ _ _ _ _ _ _ _ s hF => dflt_ok (X := XX e) (T := 695) (items := #[.int 0 1106, .bytes #[] 1107, .bytes #[] 1108]) (z := 0) rfl (by kernel_rfl) hF rfl (by kernel_rfl)) (by decide) (loc_all (by kernel_rfl)) (fun _ => .cons ⟨_, rfl⟩ (.cons ⟨by decide, _, rfl⟩ (.cons ⟨by decide, _, rfl⟩ .nil))) (.cons (.as (.attr c_Segment n_105 tk_Segment_source_port (.lo n_1 l_self)) (.lo n_105 l_source_port)) (.cons (.as (.attr c_Segment n_107 tk_Segment_target_port (.lo n_1 l_self)) (.lo n_107 l_target_port)) (.cons (.as (.attr c_Segment n_103 tk_Segment_seq (.lo n_1 l_self)) (.lo n_103 l_seq)) (.cons (.as (.attr c_Segment n_79 tk_Segment_ack (.lo n_1 l_self)) (.lo n_79 l_ack)) (.cons (.as (.attr c_Segment n_80 tk_Segment_flags (.lo n_1 l_self)) (.lo n_80 l_flags)) (.cons (.as (.attr c_Segment n_101 tk_Segment_window (.lo n_1 l_self)) (.lo n_101 l_window)) (.cons (.as (.attr c_Segment n_108 tk_Segment_urgent (.lo n_1 l_self)) (.lo n_108 l_urgent)) (.cons (.as (.attr c_Segment n_91 tk_Segment_options (.lo n_1 l_self)) (.lo n_91 l_options)) (.one (.as (.attr c_Segment n_104 tk_Segment_payload (.lo n_1 l_self)) (.lo n_104 l_payload)))))))))))
theorem s_Tcb_make_3 (e : Ev) : FnSim (XX e) 7 f_Tcb_make 903 3 := by
  have l_ack : Lo D903 "ack" := by kernel_rfl
  have l_flags : Lo D903 "flags" := by kernel_rfl
  have l_options : Lo D903 "options" := by kernel_rfl
  have l_payload : Lo D903 "payload" := by kernel_rfl
  have l_self : Lo D903 "self" := by kernel_rfl
  have l_seq : Lo D903 "seq" := by kernel_rfl
  have l_window : Lo D903 "window" := by kernel_rfl
  have y_ACK : Gl D903 "ACK" := by kernel_rfl
  have y_DELAYED : Gl D903 "DELAYED" := by kernel_rfl
  have y_MOST_WINDOW : Gl D903 "MOST_WINDOW" := by kernel_rfl
  have y_SYN : Gl D903 "SYN" := by kernel_rfl
  have y_Segment : Gl D903 "Segment" := by kernel_rfl
  have y_min : Gl D903 "min" := by kernel_rfl
  have y_mss_option : Gl D903 "mss_option" := by kernel_rfl
  exact FnSim.mk (n := 6) (N := 3) (o := (fob D903)) (fd := D903) (dv := [.bytes #[] 1430]) (by kernel_rfl) rfl rfl (by kernel_rfl) (by kernel_rfl) (by kernel_rfl) (by kernel_rfl) (by decide +kernel) rfl rfl (allN_ok fun _ _ _ s hF => dflt_ok (X := XX e) (T := 896) (items := #[.bytes #[] 1430]) (z := 0) rfl (by kernel_rfl) hF rfl (by kernel_rfl)) (by decide) (loc_all (by kernel_rfl)) (fun _ => .cons ⟨by decide, _, rfl⟩ .nil) (.cons (.an n_79 l_ack .int) (.cons (.ite (.isNotNone (.at c_Tcb n_38 fa_Tcb_receiver (.lo n_1 l_self))) (.cons (.an n_80 l_flags (.bin op_or (.lo n_80 l_flags) (.gl g_ACK (fun _ => ⟨_, rfl⟩) y_ACK))) (.cons (.an n_79 l_ack (.at c_Receiver n_25 fa_Receiver_next (.at c_Tcb n_38 fa_Tcb_receiver (.lo n_1 l_self)))) (.cons (.ex (.me c_AckPolicy n_82 fm_AckPolicy_on_sent ty_167 kp_167 (s_AckPolicy_on_sent e) (.at c_Tcb n_62 fa_Tcb_acks (.lo n_1 l_self)) .nil)) (.one (.ex (.me c_Wheel n_87 fm_Wheel_cancel ty_813 kp_813 (s_Wheel_cancel e) (.at c_Tcb n_70 fa_Tcb_wheel (.lo n_1 l_self)) (.c (.gl g_DELAYED (fun _ => ⟨_, rfl⟩) y_DELAYED) .nil))))))) .nil) (.cons (.an n_91 l_options (.ifx (.relN op_ne rfl (.bin op_and (.lo n_80 l_flags) (.gl g_SYN (fun _ => ⟨_, rfl⟩) y_SYN)) .int) (.cf g_mss_option y_mss_option kp_744 (s_mss_option e) (.c (.cb gn_min gb_min y_min b_min_ok (.c (.at c_Limits n_9 fa_Limits_mss (.at c_Tcb n_18 fa_Tcb_limits (.lo n_1 l_self))) (.c (.gl g_MOST_WINDOW (fun _ => ⟨_, rfl⟩) y_MOST_WINDOW) .nil))) .nil)) (.bytes (by kernel_rfl) (by decide)))) (.cons (.an n_101 l_window (.me c_Tcb n_102 fm_Tcb_window_now ty_895 kp_895 (s_Tcb_window_now e) (.lo n_1 l_self) .nil)) (.one (.ret (.cc g_Segment y_Segment kc_Segment mk_Segment fm_Segment___init__ ty_702 (s_Segment___init__ e) (.c (.sub (fun _ _ => by kernel_rfl) (.at c_Tcb n_20 fa_Tcb_local (.lo n_1 l_self)) .int) (.c (.sub (fun _ _ => by kernel_rfl) (.at c_Tcb n_21 fa_Tcb_remote (.lo n_1 l_self)) .int) (.c (.lo n_103 l_seq) (.c (.lo n_79 l_ack) (.c (.lo n_80 l_flags) (.c (.lo n_101 l_window) (.c .int (.c (.lo n_91 l_options) (.c (.lo n_104 l_payload) .nil))))))))))))))))
theorem s_Tcb_make_4 (e : Ev) : FnSim (XX e) 7 f_Tcb_make 903 4 := by
  have l_ack : Lo D903 "ack" := by kernel_rfl
  have l_flags : Lo D903 "flags" := by kernel_rfl
  have l_options : Lo D903 "options" := by kernel_rfl
  have l_payload : Lo D903 "payload" := by kernel_rfl
  have l_self : Lo D903 "self" := by kernel_rfl
  have l_seq : Lo D903 "seq" := by kernel_rfl
  have l_window : Lo D903 "window" := by kernel_rfl
  have y_ACK : Gl D903 "ACK" := by kernel_rfl
  have y_DELAYED : Gl D903 "DELAYED" := by kernel_rfl
  have y_MOST_WINDOW : Gl D903 "MOST_WINDOW" := by kernel_rfl
  have y_SYN : Gl D903 "SYN" := by kernel_rfl
  have y_Segment : Gl D903 "Segment" := by kernel_rfl
  have y_min : Gl D903 "min" := by kernel_rfl
  have y_mss_option : Gl D903 "mss_option" := by kernel_rfl
  exact FnSim.mk (n := 6) (N := 4) (o := (fob D903)) (fd := D903) (dv := [.bytes #[] 1430]) (by kernel_rfl) rfl rfl (by kernel_rfl) (by kernel_rfl) (by kernel_rfl) (by kernel_rfl) (by decide +kernel) rfl rfl (allN_ok fun _ _ _ _ s hF => dflt_ok (X := XX e) (T := 896) (items := #[.bytes #[] 1430]) (z := 0) rfl (by kernel_rfl) hF rfl (by kernel_rfl)) (by decide) (loc_all (by kernel_rfl)) (fun _ => .cons ⟨by decide, _, rfl⟩ .nil) (.cons (.an n_79 l_ack .int) (.cons (.ite (.isNotNone (.at c_Tcb n_38 fa_Tcb_receiver (.lo n_1 l_self))) (.cons (.an n_80 l_flags (.bin op_or (.lo n_80 l_flags) (.gl g_ACK (fun _ => ⟨_, rfl⟩) y_ACK))) (.cons (.an n_79 l_ack (.at c_Receiver n_25 fa_Receiver_next (.at c_Tcb n_38 fa_Tcb_receiver (.lo n_1 l_self)))) (.cons (.ex (.me c_AckPolicy n_82 fm_AckPolicy_on_sent ty_167 kp_167 (s_AckPolicy_on_sent e) (.at c_Tcb n_62 fa_Tcb_acks (.lo n_1 l_self)) .nil)) (.one (.ex (.me c_Wheel n_87 fm_Wheel_cancel ty_813 kp_813 (s_Wheel_cancel e) (.at c_Tcb n_70 fa_Tcb_wheel (.lo n_1 l_self)) (.c (.gl g_DELAYED (fun _ => ⟨_, rfl⟩) y_DELAYED) .nil))))))) .nil) (.cons (.an n_91 l_options (.ifx (.relN op_ne rfl (.bin op_and (.lo n_80 l_flags) (.gl g_SYN (fun _ => ⟨_, rfl⟩) y_SYN)) .int) (.cf g_mss_option y_mss_option kp_744 (s_mss_option e) (.c (.cb gn_min gb_min y_min b_min_ok (.c (.at c_Limits n_9 fa_Limits_mss (.at c_Tcb n_18 fa_Tcb_limits (.lo n_1 l_self))) (.c (.gl g_MOST_WINDOW (fun _ => ⟨_, rfl⟩) y_MOST_WINDOW) .nil))) .nil)) (.bytes (by kernel_rfl) (by decide)))) (.cons (.an n_101 l_window (.me c_Tcb n_102 fm_Tcb_window_now ty_895 kp_895 (s_Tcb_window_now e) (.lo n_1 l_self) .nil)) (.one (.ret (.cc g_Segment y_Segment kc_Segment mk_Segment fm_Segment___init__ ty_702 (s_Segment___init__ e) (.c (.sub (fun _ _ => by kernel_rfl) (.at c_Tcb n_20 fa_Tcb_local (.lo n_1 l_self)) .int) (.c (.sub (fun _ _ => by kernel_rfl) (.at c_Tcb n_21 fa_Tcb_remote (.lo n_1 l_self)) .int) (.c (.lo n_103 l_seq) (.c (.lo n_79 l_ack) (.c (.lo n_80 l_flags) (.c (.lo n_101 l_window) (.c .int (.c (.lo n_91 l_options) (.c (.lo n_104 l_payload) .nil))))))))))))))))
theorem s_latest (e : Ev) : FnSim (XX e) 4 f_latest 124 3 := by
  have l_a : Lo D124 "a" := by kernel_rfl
  have l_b : Lo D124 "b" := by kernel_rfl
  have l_ring : Lo D124 "ring" := by kernel_rfl
  have y_is_before : Gl D124 "is_before" := by kernel_rfl
  exact FnSim.m0 e 3 3 D124 rfl (fun _ _ _ _ => .of_eq (by kernel_rfl)) (.one (.ret (.ifx (.truth (.cf g_is_before y_is_before kp_110 (s_is_before e) (.c (.lo n_94 l_a) (.c (.lo n_96 l_b) (.c (.lo n_7 l_ring) .nil)))) (by exact fun _ _ => rfl)) (.lo n_96 l_b) (.lo n_94 l_a))))
theorem s_Sender_go_on (e : Ev) : FnSim (XX e) 5 f_Sender_go_on 588 2 := by
  have l_many : Lo D588 "many" := by kernel_rfl
  have l_self : Lo D588 "self" := by kernel_rfl
  have y_latest : Gl D588 "latest" := by kernel_rfl
  have y_plus : Gl D588 "plus" := by kernel_rfl
  exact FnSim.m0 e 4 2 D588 rfl (fun _ _ _ => .of_eq (by kernel_rfl)) (.cons (.as (.attr c_Sender n_25 tk_Sender_next (.lo n_1 l_self)) (.cf g_plus y_plus kp_96 (s_plus e) (.c (.at c_Sender n_25 fa_Sender_next (.lo n_1 l_self)) (.c (.lo n_109 l_many) (.c (.at c_Sender n_7 fa_Sender_ring (.lo n_1 l_self)) .nil))))) (.one (.as (.attr c_Sender n_26 tk_Sender_greatest (.lo n_1 l_self)) (.cf g_latest y_latest kp_124 (s_latest e) (.c (.at c_Sender n_26 fa_Sender_greatest (.lo n_1 l_self)) (.c (.at c_Sender n_25 fa_Sender_next (.lo n_1 l_self)) (.c (.at c_Sender n_7 fa_Sender_ring (.lo n_1 l_self)) .nil)))))))
theorem s_Sender_start (e : Ev) : FnSim (XX e) 6 f_Sender_start 595 1 := by
  have l_self : Lo D595 "self" := by kernel_rfl
  exact FnSim.m0 e 5 1 D595 rfl (fun _ _ => .of_eq (by kernel_rfl)) (.cons (.ite (.not (.truth (.at c_Sender n_34 fa_Sender_syn_pending (.lo n_1 l_self)) (by exact fun _ _ => rfl))) (.one .bad) .nil) (.cons (.ite (.rel op_eq rfl (.at c_Sender n_25 fa_Sender_next (.lo n_1 l_self)) (.at c_Sender n_23 fa_Sender_iss (.lo n_1 l_self))) (.one (.ex (.me c_Sender n_110 fm_Sender_go_on ty_588 kp_588 (s_Sender_go_on e) (.lo n_1 l_self) (.c .int .nil)))) .nil) (.one (.ret (.at c_Sender n_23 fa_Sender_iss (.lo n_1 l_self))))))
theorem s_syn_segment (e : Ev) : FnSim (XX e) 8 f_syn_segment 980 1 := by
  have l_tcb : Lo D980 "tcb" := by kernel_rfl
  have y_SYN : Gl D980 "SYN" := by kernel_rfl
  exact FnSim.m0 e 7 1 D980 rfl (fun _ _ => .of_eq (by kernel_rfl)) (.one (.ret (.me c_Tcb n_112 fm_Tcb_make ty_903 kp_903 (s_Tcb_make_3 e) (.lo n_75 l_tcb) (.c (.gl g_SYN (fun _ => ⟨_, rfl⟩) y_SYN) (.c (.me c_Sender n_111 fm_Sender_start ty_595 kp_595 (s_Sender_start e) (.at c_Tcb n_37 fa_Tcb_sender (.lo n_75 l_tcb)) .nil) .nil)))))
theorem s_RetransmitClock_sent (e : Ev) : FnSim (XX e) 2 f_RetransmitClock_sent 293 3 := by
  have l_now : Lo D293 "now" := by kernel_rfl
  have l_self : Lo D293 "self" := by kernel_rfl
  have l_seq_end : Lo D293 "seq_end" := by kernel_rfl
  exact FnSim.m0 e 1 3 D293 rfl (fun _ _ _ _ => .of_eq (by kernel_rfl)) (.one (.ite (.and (.isNone (.at c_RetransmitClock n_47 fa_RetransmitClock_timed_end (.lo n_1 l_self))) (.and1 (.rel op_eq rfl (.at c_RetransmitClock n_6 fa_RetransmitClock_tries (.lo n_1 l_self)) .int))) (.cons (.as (.attr c_RetransmitClock n_47 tk_RetransmitClock_timed_end (.lo n_1 l_self)) (.lo n_113 l_seq_end)) (.one (.as (.attr c_RetransmitClock n_48 tk_RetransmitClock_timed_at (.lo n_1 l_self)) (.lo n_78 l_now)))) .nil))
theorem s_SendQueue_size (e : Ev) : FnSim (XX e) 2 f_SendQueue_size 419 1 := by
  have l_self : Lo D419 "self" := by kernel_rfl
  have y_len : Gl D419 "len" := by kernel_rfl
  exact FnSim.m0 e 1 1 D419 rfl (fun _ _ => .of_eq (by kernel_rfl)) (.one (.ret (.cb gn_len gb_len y_len b_len_ok (.c (.at c_SendQueue n_32 fa_SendQueue_held (.lo n_1 l_self)) .nil))))
theorem s_Sender_flight (e : Ev) : FnSim (XX e) 3 f_Sender_flight 539 1 := by
  have l_self : Lo D539 "self" := by kernel_rfl
  have y_distance : Gl D539 "distance" := by kernel_rfl
  exact FnSim.m0 e 2 1 D539 rfl (fun _ _ => .of_eq (by kernel_rfl)) (.one (.ret (.cf g_distance y_distance kp_103 (s_distance e) (.c (.at c_Sender n_24 fa_Sender_una (.lo n_1 l_self)) (.c (.at c_Sender n_25 fa_Sender_next (.lo n_1 l_self)) (.c (.at c_Sender n_7 fa_Sender_ring (.lo n_1 l_self)) .nil))))))
theorem s_Sender_data_sent (e : Ev) : FnSim (XX e) 4 f_Sender_data_sent 553 1 := by
  have l_self : Lo D553 "self" := by kernel_rfl
  have y_int : Gl D553 "int" := by kernel_rfl
  have y_max : Gl D553 "max" := by kernel_rfl
  have y_min : Gl D553 "min" := by kernel_rfl
  exact FnSim.m0 e 3 1 D553 rfl (fun _ _ => .of_eq (by kernel_rfl)) (.one (.ret (.cb gn_min gb_min y_min b_min_ok (.c (.me c_SendQueue n_5 fm_SendQueue_size ty_419 kp_419 (s_SendQueue_size e) (.at c_Sender n_33 fa_Sender_queue (.lo n_1 l_self)) .nil) (.c (.cb gn_max gb_max y_max b_max_ok (.c .int (.c (.bin op_sub (.me c_Sender n_116 fm_Sender_flight ty_539 kp_539 (s_Sender_flight e) (.lo n_1 l_self) .nil) (.cb gn_int gb_int y_int b_int_ok (.c (.at c_Sender n_34 fa_Sender_syn_pending (.lo n_1 l_self)) .nil))) .nil))) .nil)))))
theorem s_Sender_unsent (e : Ev) : FnSim (XX e) 5 f_Sender_unsent 560 1 := by
  have l_self : Lo D560 "self" := by kernel_rfl
  exact FnSim.m0 e 4 1 D560 rfl (fun _ _ => .of_eq (by kernel_rfl)) (.one (.ret (.bin op_sub (.me c_SendQueue n_5 fm_SendQueue_size ty_419 kp_419 (s_SendQueue_size e) (.at c_Sender n_33 fa_Sender_queue (.lo n_1 l_self)) .nil) (.me c_Sender n_117 fm_Sender_data_sent ty_553 kp_553 (s_Sender_data_sent e) (.lo n_1 l_self) .nil))))
theorem s_Sender_usable (e : Ev) : FnSim (XX e) 4 f_Sender_usable 546 2 := by
  have l_congestion_window : Lo D546 "congestion_window" := by kernel_rfl
  have l_self : Lo D546 "self" := by kernel_rfl
  have y_max : Gl D546 "max" := by kernel_rfl
  have y_min : Gl D546 "min" := by kernel_rfl
  exact FnSim.m0 e 3 2 D546 rfl (fun _ _ _ => .of_eq (by kernel_rfl)) (.one (.ret (.cb gn_max gb_max y_max b_max_ok (.c .int (.c (.bin op_sub (.cb gn_min gb_min y_min b_min_ok (.c (.prop c_Sender n_101 (pw_fo e) (pw_rec e) (by exact fun _ _ => rfl) (s_Sender_window e) (by decide) (.lo n_1 l_self)) (.c (.lo n_119 l_congestion_window) .nil))) (.me c_Sender n_116 fm_Sender_flight ty_539 kp_539 (s_Sender_flight e) (.lo n_1 l_self) .nil)) .nil)))))
theorem s_Sender_may_go (e : Ev) : FnSim (XX e) 6 f_Sender_may_go 602 3 := by
  have l_is_nagle : Lo D602 "is_nagle" := by kernel_rfl
  have l_many : Lo D602 "many" := by kernel_rfl
  have l_self : Lo D602 "self" := by kernel_rfl
  exact FnSim.m0 e 5 3 D602 rfl (fun _ _ _ _ => .of_eq (by kernel_rfl)) (.cons (.ite (.rel op_ge rfl (.lo n_109 l_many) (.at c_Sender n_9 fa_Sender_mss (.lo n_1 l_self))) (.one (.ret .tt)) .nil) (.cons (.ite (.and (.truth (.lo n_74 l_is_nagle) (by exact fun _ _ => rfl)) (.and (.rel op_gt rfl (.me c_Sender n_116 fm_Sender_flight ty_539 kp_539 (s_Sender_flight e) (.lo n_1 l_self) .nil) .int) (.and1 (.not (.and (.truth (.at c_Sender n_35 fa_Sender_fin_asked (.lo n_1 l_self)) (by exact fun _ _ => rfl)) (.and1 (.rel op_eq rfl (.lo n_109 l_many) (.me c_Sender n_118 fm_Sender_unsent ty_560 kp_560 (s_Sender_unsent e) (.lo n_1 l_self) .nil)))))))) (.one (.ret .ff)) .nil) (.one (.ret (.val (.or (.rel op_eq rfl (.lo n_109 l_many) (.me c_Sender n_118 fm_Sender_unsent ty_560 kp_560 (s_Sender_unsent e) (.lo n_1 l_self) .nil)) (.or1 (.rel op_ge rfl (.bin op_mul .int (.lo n_109 l_many)) (.at c_PeerWindow n_27 fa_PeerWindow_most (.at c_Sender n_3 fa_Sender_peer (.lo n_1 l_self)))))))))))
theorem s_SendQueue_part (e : Ev) : FnSim (XX e) 2 f_SendQueue_part 440 3 := by
  have l_at : Lo D440 "at" := by kernel_rfl
  have l_many : Lo D440 "many" := by kernel_rfl
  have l_self : Lo D440 "self" := by kernel_rfl
  have y_len : Gl D440 "len" := by kernel_rfl
  exact FnSim.m0 e 1 3 D440 rfl (fun _ _ _ _ => .of_eq (by kernel_rfl)) (.cons (.ite (.or (.rel op_lt rfl (.lo n_122 l_at) .int) (.or (.rel op_lt rfl (.lo n_109 l_many) .int) (.or1 (.rel op_gt rfl (.bin op_add (.lo n_122 l_at) (.lo n_109 l_many)) (.cb gn_len gb_len y_len b_len_ok (.c (.at c_SendQueue n_32 fa_SendQueue_held (.lo n_1 l_self)) .nil)))))) (.one .bad) .nil) (.one (.ret (.slc (fun _ _ _ => rfl) (.at c_SendQueue n_32 fa_SendQueue_held (.lo n_1 l_self)) (.some (.lo n_122 l_at)) (.some (.bin op_add (.lo n_122 l_at) (.lo n_109 l_many)))))))
theorem s_Sender_piece_of (e : Ev) : FnSim (XX e) 6 f_Sender_piece_of 617 3 := by
  have l_congestion_window : Lo D617 "congestion_window" := by kernel_rfl
  have l_has_fin : Lo D617 "has_fin" := by kernel_rfl
  have l_is_last : Lo D617 "is_last" := by kernel_rfl
  have l_many : Lo D617 "many" := by kernel_rfl
  have l_octets : Lo D617 "octets" := by kernel_rfl
  have l_self : Lo D617 "self" := by kernel_rfl
  have l_seq : Lo D617 "seq" := by kernel_rfl
  have y_int : Gl D617 "int" := by kernel_rfl
  exact FnSim.m0 e 5 3 D617 rfl (fun _ _ _ _ => .of_eq (by kernel_rfl)) (.cons (.an n_103 l_seq (.at c_Sender n_25 fa_Sender_next (.lo n_1 l_self))) (.cons (.an n_124 l_octets (.me c_SendQueue n_123 fm_SendQueue_part ty_440 kp_440 (s_SendQueue_part e) (.at c_Sender n_33 fa_Sender_queue (.lo n_1 l_self)) (.c (.me c_Sender n_117 fm_Sender_data_sent ty_553 kp_553 (s_Sender_data_sent e) (.lo n_1 l_self) .nil) (.c (.lo n_109 l_many) .nil)))) (.cons (.an n_125 l_is_last (.val (.rel op_eq rfl (.lo n_109 l_many) (.me c_Sender n_118 fm_Sender_unsent ty_560 kp_560 (s_Sender_unsent e) (.lo n_1 l_self) .nil)))) (.cons (.an n_98 l_has_fin (.val (.and (.truth (.lo n_125 l_is_last)) (.and (.truth (.at c_Sender n_35 fa_Sender_fin_asked (.lo n_1 l_self))) (.and1 (.rel op_gt rfl (.me c_Sender n_120 fm_Sender_usable ty_546 kp_546 (s_Sender_usable e) (.lo n_1 l_self) (.c (.lo n_119 l_congestion_window) .nil)) (.lo n_109 l_many))))))) (.cons (.as (.attr c_Sender n_36 tk_Sender_fin_sent (.lo n_1 l_self)) (.val (.or (.truth (.at c_Sender n_36 fa_Sender_fin_sent (.lo n_1 l_self))) (.or1 (.truth (.lo n_98 l_has_fin)))))) (.cons (.ex (.me c_Sender n_110 fm_Sender_go_on ty_588 kp_588 (s_Sender_go_on e) (.lo n_1 l_self) (.c (.bin op_add (.lo n_109 l_many) (.cb gn_int gb_int y_int b_int_ok (.c (.lo n_98 l_has_fin) .nil))) .nil))) (.one (.ret (.tup (.c (.lo n_103 l_seq) (.c (.lo n_124 l_octets) (.c (.lo n_125 l_is_last) (.c (.lo n_98 l_has_fin) .nil)))))))))))))
theorem s_Sender_is_fin_acked (e : Ev) : FnSim (XX e) 3 f_Sender_is_fin_acked 574 1 := by
  have l_self : Lo D574 "self" := by kernel_rfl
  exact FnSim.m0 e 2 1 D574 rfl (fun _ _ => .of_eq (by kernel_rfl)) (.one (.ret (.val (.and (.truth (.at c_Sender n_36 fa_Sender_fin_sent (.lo n_1 l_self))) (.and (.not (.truth (.at c_Sender n_34 fa_Sender_syn_pending (.lo n_1 l_self)))) (.and (.rel op_eq rfl (.me c_SendQueue n_5 fm_SendQueue_size ty_419 kp_419 (s_SendQueue_size e) (.at c_Sender n_33 fa_Sender_queue (.lo n_1 l_self)) .nil) .int) (.and1 (.rel op_eq rfl (.at c_Sender n_24 fa_Sender_una (.lo n_1 l_self)) (.at c_Sender n_26 fa_Sender_greatest (.lo n_1 l_self))))))))))
theorem s_Sender_is_fin_due (e : Ev) : FnSim (XX e) 4 f_Sender_is_fin_due 567 1 := by
  have l_room : Lo D567 "room" := by kernel_rfl
  have l_self : Lo D567 "self" := by kernel_rfl
  have y_int : Gl D567 "int" := by kernel_rfl
  exact FnSim.m0 e 3 1 D567 rfl (fun _ _ => .of_eq (by kernel_rfl)) (.cons (.an n_30 l_room (.bin op_add (.me c_SendQueue n_5 fm_SendQueue_size ty_419 kp_419 (s_SendQueue_size e) (.at c_Sender n_33 fa_Sender_queue (.lo n_1 l_self)) .nil) (.cb gn_int gb_int y_int b_int_ok (.c (.at c_Sender n_34 fa_Sender_syn_pending (.lo n_1 l_self)) .nil)))) (.one (.ret (.val (.and (.truth (.at c_Sender n_35 fa_Sender_fin_asked (.lo n_1 l_self))) (.and (.not (.truth (.me c_Sender n_127 fm_Sender_is_fin_acked ty_574 kp_574 (s_Sender_is_fin_acked e) (.lo n_1 l_self) .nil))) (.and1 (.rel op_le rfl (.me c_Sender n_116 fm_Sender_flight ty_539 kp_539 (s_Sender_flight e) (.lo n_1 l_self) .nil) (.lo n_30 l_room)))))))))
theorem s_Sender_pieces (e : Ev) : FnSim (XX e) 7 f_Sender_pieces 610 3 := by
  have l_congestion_window : Lo D610 "congestion_window" := by kernel_rfl
  have l_found : Lo D610 "found" := by kernel_rfl
  have l_is_nagle : Lo D610 "is_nagle" := by kernel_rfl
  have l_many : Lo D610 "many" := by kernel_rfl
  have l_self : Lo D610 "self" := by kernel_rfl
  have y_min : Gl D610 "min" := by kernel_rfl
  exact FnSim.mk (n := 6) (N := 3) (o := (fob D610)) (fd := D610) (dv := [.bool true]) (by kernel_rfl) rfl rfl (by kernel_rfl) (by kernel_rfl) (by kernel_rfl) (by kernel_rfl) (by decide +kernel) rfl rfl (allN_ok fun _ _ _ s hF => dflt_ok (X := XX e) (T := 603) (items := #[.bool true]) (z := 0) rfl (by kernel_rfl) hF rfl (by kernel_rfl)) (by decide) (loc_all (by kernel_rfl)) (fun _ => .cons rfl .nil) (.cons (.an n_77 l_found (.list .nil)) (.cons (.ite (.truth (.at c_Sender n_34 fa_Sender_syn_pending (.lo n_1 l_self)) (by exact fun _ _ => rfl)) (.one (.ret (.lo n_77 l_found))) .nil) (.cons (.whl (.rel op_gt rfl (.me c_Sender n_118 fm_Sender_unsent ty_560 kp_560 (s_Sender_unsent e) (.lo n_1 l_self) .nil) .int) (.cons (.an n_109 l_many (.cb gn_min gb_min y_min b_min_ok (.c (.at c_Sender n_9 fa_Sender_mss (.lo n_1 l_self)) (.c (.me c_Sender n_118 fm_Sender_unsent ty_560 kp_560 (s_Sender_unsent e) (.lo n_1 l_self) .nil) (.c (.me c_Sender n_120 fm_Sender_usable ty_546 kp_546 (s_Sender_usable e) (.lo n_1 l_self) (.c (.lo n_119 l_congestion_window) .nil)) .nil))))) (.cons (.ite (.or (.rel op_eq rfl (.lo n_109 l_many) .int) (.or1 (.not (.truth (.me c_Sender n_121 fm_Sender_may_go ty_602 kp_602 (s_Sender_may_go e) (.lo n_1 l_self) (.c (.lo n_109 l_many) (.c (.lo n_74 l_is_nagle) .nil))) (by exact fun _ _ => rfl))))) (.one (.ret (.lo n_77 l_found))) .nil) (.one (.ex (.bmeth (T := 1) PySem.F.plainAttrs_list PySem.F.slot_list_append PySem.F.type_list_append (by exact fun _ => rfl) (by exact fun _ => rfl) b_append (.lo n_77 l_found) (.me c_Sender n_126 fm_Sender_piece_of ty_617 kp_617 (s_Sender_piece_of e) (.lo n_1 l_self) (.c (.lo n_109 l_many) (.c (.lo n_119 l_congestion_window) .nil))))))))) (.cons (.ite (.and (.truth (.me c_Sender n_128 fm_Sender_is_fin_due ty_567 kp_567 (s_Sender_is_fin_due e) (.lo n_1 l_self) .nil) (by exact fun _ _ => rfl)) (.and1 (.rel op_gt rfl (.me c_Sender n_120 fm_Sender_usable ty_546 kp_546 (s_Sender_usable e) (.lo n_1 l_self) (.c (.lo n_119 l_congestion_window) .nil)) .int))) (.cons (.ex (.bmeth (T := 1) PySem.F.plainAttrs_list PySem.F.slot_list_append PySem.F.type_list_append (by exact fun _ => rfl) (by exact fun _ => rfl) b_append (.lo n_77 l_found) (.tup (.c (.at c_Sender n_25 fa_Sender_next (.lo n_1 l_self)) (.c (.bytes (by kernel_rfl) (by decide)) (.c .ff (.c .tt .nil))))))) (.cons (.as (.attr c_Sender n_36 tk_Sender_fin_sent (.lo n_1 l_self)) .tt) (.one (.ex (.me c_Sender n_110 fm_Sender_go_on ty_588 kp_588 (s_Sender_go_on e) (.lo n_1 l_self) (.c .int .nil)))))) .nil) (.one (.ret (.lo n_77 l_found)))))))
theorem s_Congestion_window (e : Ev) : FnSim (XX e) 2 f_Congestion_window 202 1 := by
  have l_self : Lo D202 "self" := by kernel_rfl
  exact FnSim.m0 e 1 1 D202 rfl (fun _ _ => .of_eq (by kernel_rfl)) (.one (.ret (.at c_Congestion n_5 fa_Congestion_size (.lo n_1 l_self))))
theorem s_flags_of (e : Ev) : FnSim (XX e) 2 f_flags_of 987 2 := by
  have l_flags : Lo D987 "flags" := by kernel_rfl
  have l_has_fin : Lo D987 "has_fin" := by kernel_rfl
  have l_has_push : Lo D987 "has_push" := by kernel_rfl
  have y_ACK : Gl D987 "ACK" := by kernel_rfl
  have y_FIN : Gl D987 "FIN" := by kernel_rfl
  have y_PSH : Gl D987 "PSH" := by kernel_rfl
  exact FnSim.m0 e 1 2 D987 rfl (fun _ _ _ => .of_eq (by kernel_rfl)) (.cons (.an n_80 l_flags (.gl g_ACK (fun _ => ⟨_, rfl⟩) y_ACK)) (.cons (.ite (.truth (.lo n_130 l_has_push) (by exact fun _ _ => rfl)) (.one (.an n_80 l_flags (.bin op_or (.lo n_80 l_flags) (.gl g_PSH (fun _ => ⟨_, rfl⟩) y_PSH)))) .nil) (.cons (.ite (.truth (.lo n_98 l_has_fin) (by exact fun _ _ => rfl)) (.one (.an n_80 l_flags (.bin op_or (.lo n_80 l_flags) (.gl g_FIN (fun _ => ⟨_, rfl⟩) y_FIN)))) .nil) (.one (.ret (.lo n_80 l_flags))))))
theorem s_data_segments (e : Ev) : FnSim (XX e) 8 f_data_segments 1001 2 := by
  have l_ahead : Lo D1001 "ahead" := by kernel_rfl
  have l_end : Lo D1001 "end" := by kernel_rfl
  have l_found : Lo D1001 "found" := by kernel_rfl
  have l_has_fin : Lo D1001 "has_fin" := by kernel_rfl
  have l_has_push : Lo D1001 "has_push" := by kernel_rfl
  have l_now : Lo D1001 "now" := by kernel_rfl
  have l_octets : Lo D1001 "octets" := by kernel_rfl
  have l_ring : Lo D1001 "ring" := by kernel_rfl
  have l_seq : Lo D1001 "seq" := by kernel_rfl
  have l_tcb : Lo D1001 "tcb" := by kernel_rfl
  have y_flags_of : Gl D1001 "flags_of" := by kernel_rfl
  have y_is_before : Gl D1001 "is_before" := by kernel_rfl
  have y_len : Gl D1001 "len" := by kernel_rfl
  have y_plus : Gl D1001 "plus" := by kernel_rfl
  exact FnSim.m0 e 7 2 D1001 rfl (fun _ _ _ => .of_eq (by kernel_rfl)) (.cons (.an n_77 l_found (.list .nil)) (.cons (.an n_7 l_ring (.at c_Limits n_7 fa_Limits_ring (.at c_Tcb n_18 fa_Tcb_limits (.lo n_75 l_tcb)))) (.cons (.an n_115 l_ahead (.at c_Sender n_26 fa_Sender_greatest (.at c_Tcb n_37 fa_Tcb_sender (.lo n_75 l_tcb)))) (.cons (.forL (by exact fun _ _ => rfl) (.tup (by exact fun _ => rfl) (.cons (.name n_103 l_seq.l) (.cons (.name n_124 l_octets.l) (.cons (.name n_130 l_has_push.l) (.cons (.name n_98 l_has_fin.l) .nil))))) (.me c_Sender n_129 fm_Sender_pieces ty_610 kp_610 (s_Sender_pieces e) (.at c_Tcb n_37 fa_Tcb_sender (.lo n_75 l_tcb)) (.c (.me c_Congestion n_101 fm_Congestion_window ty_202 kp_202 (s_Congestion_window e) (.at c_Tcb n_56 fa_Tcb_congestion (.lo n_75 l_tcb)) .nil) (.c (.at c_Tcb n_74 fa_Tcb_is_nagle (.lo n_75 l_tcb)) .nil))) (.cons (.an n_131 l_end (.cf g_plus y_plus kp_96 (s_plus e) (.c (.lo n_103 l_seq) (.c (.bin op_add (.cb gn_len gb_len y_len b_len_ok (.c (.lo n_124 l_octets) .nil)) (.ifx (.truth (.lo n_98 l_has_fin) (by exact fun _ _ => rfl)) .int .int)) (.c (.lo n_7 l_ring) .nil))))) (.cons (.ite (.truth (.cf g_is_before y_is_before kp_110 (s_is_before e) (.c (.lo n_115 l_ahead) (.c (.lo n_131 l_end) (.c (.lo n_7 l_ring) .nil)))) (by exact fun _ _ => rfl)) (.one (.ex (.me c_RetransmitClock n_114 fm_RetransmitClock_sent ty_293 kp_293 (s_RetransmitClock_sent e) (.at c_Tcb n_49 fa_Tcb_clock (.lo n_75 l_tcb)) (.c (.lo n_131 l_end) (.c (.lo n_78 l_now) .nil))))) .nil) (.one (.ex (.bmeth (T := 1) PySem.F.plainAttrs_list PySem.F.slot_list_append PySem.F.type_list_append (by exact fun _ => rfl) (by exact fun _ => rfl) b_append (.lo n_77 l_found) (.me c_Tcb n_112 fm_Tcb_make ty_903 kp_903 (s_Tcb_make_4 e) (.lo n_75 l_tcb) (.c (.cf g_flags_of y_flags_of kp_987 (s_flags_of e) (.c (.lo n_130 l_has_push) (.c (.lo n_98 l_has_fin) .nil))) (.c (.lo n_103 l_seq) (.c (.lo n_124 l_octets) .nil)))))))))) (.one (.ret (.lo n_77 l_found)))))))
theorem s_Wheel_time_of (e : Ev) : FnSim (XX e) 2 f_Wheel_time_of 820 2 := by
  have l_key : Lo D820 "key" := by kernel_rfl
  have l_self : Lo D820 "self" := by kernel_rfl
  exact FnSim.m0 e 1 2 D820 rfl (fun _ _ _ => .of_eq (by kernel_rfl)) (.one (.ret (.ifx (.rel op_in rfl (.lo n_83 l_key) (.at c_Wheel n_67 fa_Wheel_entries (.lo n_1 l_self))) (.sub (fun _ _ => by kernel_rfl) (.sub (fun _ _ => by kernel_rfl) (.at c_Wheel n_67 fa_Wheel_entries (.lo n_1 l_self)) (.lo n_83 l_key)) .int) SimE.none')))
theorem s_Wheel_list_of (e : Ev) : FnSim (XX e) 2 f_Wheel_list_of 806 2 := by
  have l_self : Lo D806 "self" := by kernel_rfl
  have l_time : Lo D806 "time" := by kernel_rfl
  exact FnSim.m0 e 1 2 D806 rfl (fun _ _ _ => .of_eq (by kernel_rfl)) (.cons (.ite (.and (.isNotNone (.at c_Wheel n_68 fa_Wheel_reached (.lo n_1 l_self))) (.and1 (.rel op_le rfl (.lo n_84 l_time) (.at c_Wheel n_68 fa_Wheel_reached (.lo n_1 l_self))))) (.one (.ret (.at c_Wheel n_66 fa_Wheel_late (.lo n_1 l_self)))) .nil) (.one (.ret (.sub (fun _ _ => by kernel_rfl) (.at c_Wheel n_65 fa_Wheel_slots (.lo n_1 l_self)) (.bin op_mod (.lo n_84 l_time) (.at c_Wheel n_5 fa_Wheel_size (.lo n_1 l_self)))))))
theorem s_Wheel_put (e : Ev) : FnSim (XX e) 3 f_Wheel_put 799 3 := by
  have l_key : Lo D799 "key" := by kernel_rfl
  have l_self : Lo D799 "self" := by kernel_rfl
  have l_time : Lo D799 "time" := by kernel_rfl
  exact FnSim.m0 e 2 3 D799 rfl (fun _ _ _ _ => .of_eq (by kernel_rfl)) (.cons (.ex (.me c_Wheel n_87 fm_Wheel_cancel ty_813 kp_813 (s_Wheel_cancel e) (.lo n_1 l_self) (.c (.lo n_83 l_key) .nil))) (.cons (.as (.attr c_Wheel n_69 tk_Wheel_given (.lo n_1 l_self)) (.bin op_add (.at c_Wheel n_69 fa_Wheel_given (.lo n_1 l_self)) .int)) (.cons (.as (.sub (.at c_Wheel n_67 fa_Wheel_entries (.lo n_1 l_self)) (.lo n_83 l_key)) (.tup (.c (.lo n_84 l_time) (.c (.at c_Wheel n_69 fa_Wheel_given (.lo n_1 l_self)) .nil)))) (.one (.ex (.bmeth (T := 1) PySem.F.plainAttrs_list PySem.F.slot_list_append PySem.F.type_list_append (by exact fun _ => rfl) (by exact fun _ => rfl) b_append (.me c_Wheel n_133 fm_Wheel_list_of ty_806 kp_806 (s_Wheel_list_of e) (.lo n_1 l_self) (.c (.lo n_84 l_time) .nil)) (.lo n_83 l_key)))))))
theorem s_RttEstimate_bounded (e : Ev) : FnSim (XX e) 2 f_RttEstimate_bounded 391 2 := by
  have l_self : Lo D391 "self" := by kernel_rfl
  have l_ticks : Lo D391 "ticks" := by kernel_rfl
  exact FnSim.m0 e 1 2 D391 rfl (fun _ _ _ => .of_eq (by kernel_rfl)) (.cons (.ite (.rel op_lt rfl (.lo n_134 l_ticks) (.at c_RttEstimate n_41 fa_RttEstimate_least (.lo n_1 l_self))) (.one (.ret (.at c_RttEstimate n_41 fa_RttEstimate_least (.lo n_1 l_self)))) .nil) (.one (.ret (.ifx (.rel op_gt rfl (.lo n_134 l_ticks) (.at c_RttEstimate n_27 fa_RttEstimate_most (.lo n_1 l_self))) (.at c_RttEstimate n_27 fa_RttEstimate_most (.lo n_1 l_self)) (.lo n_134 l_ticks)))))
theorem s_RttEstimate_plain_timeout (e : Ev) : FnSim (XX e) 2 f_RttEstimate_plain_timeout 377 1 := by
  have l_self : Lo D377 "self" := by kernel_rfl
  exact FnSim.m0 e 1 1 D377 rfl (fun _ _ => .of_eq (by kernel_rfl)) (.cons (.ite (.rel op_eq rfl (.at c_RttEstimate n_44 fa_RttEstimate_measured (.lo n_1 l_self)) .int) (.one (.ret (.at c_RttEstimate n_39 fa_RttEstimate_first (.lo n_1 l_self)))) .nil) (.one (.ret (.bin op_add (.bin op_fdv (.at c_RttEstimate n_42 fa_RttEstimate_mean8 (.lo n_1 l_self)) .int) (.at c_RttEstimate n_43 fa_RttEstimate_spread4 (.lo n_1 l_self))))))
theorem s_RttEstimate_timeout (e : Ev) : FnSim (XX e) 3 f_RttEstimate_timeout 384 1 := by
  have l_self : Lo D384 "self" := by kernel_rfl
  exact FnSim.m0 e 2 1 D384 rfl (fun _ _ => .of_eq (by kernel_rfl)) (.one (.ret (.me c_RttEstimate n_136 fm_RttEstimate_bounded ty_391 kp_391 (s_RttEstimate_bounded e) (.lo n_1 l_self) (.c (.me c_RttEstimate n_135 fm_RttEstimate_plain_timeout ty_377 kp_377 (s_RttEstimate_plain_timeout e) (.lo n_1 l_self) .nil) .nil))))
theorem s_RetransmitClock_waited (e : Ev) : FnSim (XX e) 4 f_RetransmitClock_waited 328 1 := by
  have l_self : Lo D328 "self" := by kernel_rfl
  have l_ticks : Lo D328 "ticks" := by kernel_rfl
  have l_turn : Lo D328 "turn" := by kernel_rfl
  have y_MOST_SHIFT_retransmit : Gl D328 "MOST_SHIFT_retransmit" := by kernel_rfl
  have y_range : Gl D328 "range" := by kernel_rfl
  exact FnSim.m0 e 3 1 D328 rfl (fun _ _ => .of_eq (by kernel_rfl)) (.cons (.an n_134 l_ticks (.me c_RttEstimate n_137 fm_RttEstimate_timeout ty_384 kp_384 (s_RttEstimate_timeout e) (.at c_RetransmitClock n_45 fa_RetransmitClock_estimate (.lo n_1 l_self)) .nil)) (.cons (.for_ (by exact fun _ _ => rfl) (by exact fun _ _ => rfl) (.name n_138 l_turn.l) (.cb gn_range gb_range y_range b_range_ok (.c (.ifx (.rel op_gt rfl (.at c_RetransmitClock n_6 fa_RetransmitClock_tries (.lo n_1 l_self)) (.gl g_MOST_SHIFT_retransmit (fun _ => ⟨_, rfl⟩) y_MOST_SHIFT_retransmit)) (.gl g_MOST_SHIFT_retransmit (fun _ => ⟨_, rfl⟩) y_MOST_SHIFT_retransmit) (.at c_RetransmitClock n_6 fa_RetransmitClock_tries (.lo n_1 l_self))) .nil)) (.one (.an n_134 l_ticks (.bin op_mul .int (.lo n_134 l_ticks))))) (.one (.ret (.me c_RttEstimate n_136 fm_RttEstimate_bounded ty_391 kp_391 (s_RttEstimate_bounded e) (.at c_RetransmitClock n_45 fa_RetransmitClock_estimate (.lo n_1 l_self)) (.c (.lo n_134 l_ticks) .nil))))))
theorem s_RetransmitClock_deadline (e : Ev) : FnSim (XX e) 5 f_RetransmitClock_deadline 335 2 := by
  have l_now : Lo D335 "now" := by kernel_rfl
  have l_self : Lo D335 "self" := by kernel_rfl
  exact FnSim.m0 e 4 2 D335 rfl (fun _ _ _ => .of_eq (by kernel_rfl)) (.one (.ret (.bin op_add (.lo n_78 l_now) (.me c_RetransmitClock n_139 fm_RetransmitClock_waited ty_328 kp_328 (s_RetransmitClock_waited e) (.lo n_1 l_self) .nil))))
theorem s_Sender_is_idle_with_more (e : Ev) : FnSim (XX e) 6 f_Sender_is_idle_with_more 652 1 := by
  have l_self : Lo D652 "self" := by kernel_rfl
  exact FnSim.m0 e 5 1 D652 rfl (fun _ _ => .of_eq (by kernel_rfl)) (.cons (.ite (.or (.truth (.at c_Sender n_34 fa_Sender_syn_pending (.lo n_1 l_self)) (by exact fun _ _ => rfl)) (.or1 (.rel op_gt rfl (.me c_Sender n_116 fm_Sender_flight ty_539 kp_539 (s_Sender_flight e) (.lo n_1 l_self) .nil) .int))) (.one (.ret .ff)) .nil) (.one (.ret (.val (.or (.rel op_gt rfl (.me c_Sender n_118 fm_Sender_unsent ty_560 kp_560 (s_Sender_unsent e) (.lo n_1 l_self) .nil) .int) (.or1 (.truth (.me c_Sender n_128 fm_Sender_is_fin_due ty_567 kp_567 (s_Sender_is_fin_due e) (.lo n_1 l_self) .nil))))))))
theorem s_Sender_needs_probe (e : Ev) : FnSim (XX e) 7 f_Sender_needs_probe 659 1 := by
  have l_many : Lo D659 "many" := by kernel_rfl
  have l_self : Lo D659 "self" := by kernel_rfl
  have y_min : Gl D659 "min" := by kernel_rfl
  exact FnSim.m0 e 6 1 D659 rfl (fun _ _ => .of_eq (by kernel_rfl)) (.cons (.ite (.not (.truth (.me c_Sender n_142 fm_Sender_is_idle_with_more ty_652 kp_652 (s_Sender_is_idle_with_more e) (.lo n_1 l_self) .nil) (by exact fun _ _ => rfl))) (.one (.ret .ff)) .nil) (.cons (.ite (.rel op_eq rfl (.prop c_Sender n_101 (pw_fo e) (pw_rec e) (by exact fun _ _ => rfl) (s_Sender_window e) (by decide) (.lo n_1 l_self)) .int) (.one (.ret .tt)) .nil) (.cons (.an n_109 l_many (.cb gn_min gb_min y_min b_min_ok (.c (.at c_Sender n_9 fa_Sender_mss (.lo n_1 l_self)) (.c (.me c_Sender n_118 fm_Sender_unsent ty_560 kp_560 (s_Sender_unsent e) (.lo n_1 l_self) .nil) (.c (.prop c_Sender n_101 (pw_fo e) (pw_rec e) (by exact fun _ _ => rfl) (s_Sender_window e) (by decide) (.lo n_1 l_self)) .nil))))) (.one (.ret (.val (.and (.rel op_gt rfl (.lo n_109 l_many) .int) (.and1 (.not (.truth (.me c_Sender n_121 fm_Sender_may_go ty_602 kp_602 (s_Sender_may_go e) (.lo n_1 l_self) (.c (.lo n_109 l_many) (.c .tt .nil)))))))))))))
theorem s_probe_wait (e : Ev) : FnSim (XX e) 4 f_probe_wait 1022 1 := by
  have l_estimate : Lo D1022 "estimate" := by kernel_rfl
  have l_tcb : Lo D1022 "tcb" := by kernel_rfl
  have y_MOST_SHIFT_tcp_user : Gl D1022 "MOST_SHIFT_tcp_user" := by kernel_rfl
  have y_min : Gl D1022 "min" := by kernel_rfl
  exact FnSim.m0 e 3 1 D1022 rfl (fun _ _ => .of_eq (by kernel_rfl)) (.cons (.an n_45 l_estimate (.at c_RetransmitClock n_45 fa_RetransmitClock_estimate (.at c_Tcb n_49 fa_Tcb_clock (.lo n_75 l_tcb)))) (.one (.ret (.me c_RttEstimate n_136 fm_RttEstimate_bounded ty_391 kp_391 (s_RttEstimate_bounded e) (.lo n_45 l_estimate) (.c (.bin op_mul (.me c_RttEstimate n_137 fm_RttEstimate_timeout ty_384 kp_384 (s_RttEstimate_timeout e) (.lo n_45 l_estimate) .nil) (.bin op_pow .int (.cb gn_min gb_min y_min b_min_ok (.c (.at c_Tcb n_72 fa_Tcb_probes (.lo n_75 l_tcb)) (.c (.gl g_MOST_SHIFT_tcp_user (fun _ => ⟨_, rfl⟩) y_MOST_SHIFT_tcp_user) .nil))))) .nil)))))
theorem s_keep_timers (e : Ev) : FnSim (XX e) 8 f_keep_timers 1015 2 := by
  have l_now : Lo D1015 "now" := by kernel_rfl
  have l_tcb : Lo D1015 "tcb" := by kernel_rfl
  have y_CLOSED : Gl D1015 "CLOSED" := by kernel_rfl
  have y_LISTEN : Gl D1015 "LISTEN" := by kernel_rfl
  have y_PERSIST : Gl D1015 "PERSIST" := by kernel_rfl
  have y_RESEND : Gl D1015 "RESEND" := by kernel_rfl
  have y_TIME_WAIT : Gl D1015 "TIME_WAIT" := by kernel_rfl
  have y_is_sending : Gl D1015 "is_sending" := by kernel_rfl
  have y_probe_wait : Gl D1015 "probe_wait" := by kernel_rfl
  exact FnSim.m0 e 7 2 D1015 rfl (fun _ _ _ => .of_eq (by kernel_rfl)) (.cons (.ite (.rel op_in rfl (.at c_Tcb n_22 fa_Tcb_state (.lo n_75 l_tcb)) (.tup (.c (.gl g_CLOSED (fun _ => ⟨_, by rw [t_1]⟩) y_CLOSED) (.c (.gl g_LISTEN (fun _ => ⟨_, by rw [t_3]⟩) y_LISTEN) (.c (.gl g_TIME_WAIT (fun _ => ⟨_, by rw [t_17]⟩) y_TIME_WAIT) .nil))))) (.one .ret0) .nil) (.cons (.ite (.rel op_eq rfl (.me c_Sender n_116 fm_Sender_flight ty_539 kp_539 (s_Sender_flight e) (.at c_Tcb n_37 fa_Tcb_sender (.lo n_75 l_tcb)) .nil) .int) (.one (.ex (.me c_Wheel n_87 fm_Wheel_cancel ty_813 kp_813 (s_Wheel_cancel e) (.at c_Tcb n_70 fa_Tcb_wheel (.lo n_75 l_tcb)) (.c (.gl g_RESEND (fun _ => ⟨_, rfl⟩) y_RESEND) .nil)))) (.one (.ite (.isNone (.me c_Wheel n_132 fm_Wheel_time_of ty_820 kp_820 (s_Wheel_time_of e) (.at c_Tcb n_70 fa_Tcb_wheel (.lo n_75 l_tcb)) (.c (.gl g_RESEND (fun _ => ⟨_, rfl⟩) y_RESEND) .nil))) (.one (.ex (.me c_Wheel n_141 fm_Wheel_put ty_799 kp_799 (s_Wheel_put e) (.at c_Tcb n_70 fa_Tcb_wheel (.lo n_75 l_tcb)) (.c (.gl g_RESEND (fun _ => ⟨_, rfl⟩) y_RESEND) (.c (.me c_RetransmitClock n_140 fm_RetransmitClock_deadline ty_335 kp_335 (s_RetransmitClock_deadline e) (.at c_Tcb n_49 fa_Tcb_clock (.lo n_75 l_tcb)) (.c (.lo n_78 l_now) .nil)) .nil))))) .nil))) (.one (.ite (.or (.not (.truth (.cf g_is_sending y_is_sending kp_779 (s_is_sending e) (.c (.at c_Tcb n_22 fa_Tcb_state (.lo n_75 l_tcb)) .nil)) (by exact fun _ _ => rfl))) (.or1 (.not (.truth (.me c_Sender n_143 fm_Sender_needs_probe ty_659 kp_659 (s_Sender_needs_probe e) (.at c_Tcb n_37 fa_Tcb_sender (.lo n_75 l_tcb)) .nil) (by exact fun _ _ => rfl))))) (.cons (.ex (.me c_Wheel n_87 fm_Wheel_cancel ty_813 kp_813 (s_Wheel_cancel e) (.at c_Tcb n_70 fa_Tcb_wheel (.lo n_75 l_tcb)) (.c (.gl g_PERSIST (fun _ => ⟨_, rfl⟩) y_PERSIST) .nil))) (.one (.as (.attr c_Tcb n_72 tk_Tcb_probes (.lo n_75 l_tcb)) .int))) (.one (.ite (.isNone (.me c_Wheel n_132 fm_Wheel_time_of ty_820 kp_820 (s_Wheel_time_of e) (.at c_Tcb n_70 fa_Tcb_wheel (.lo n_75 l_tcb)) (.c (.gl g_PERSIST (fun _ => ⟨_, rfl⟩) y_PERSIST) .nil))) (.one (.ex (.me c_Wheel n_141 fm_Wheel_put ty_799 kp_799 (s_Wheel_put e) (.at c_Tcb n_70 fa_Tcb_wheel (.lo n_75 l_tcb)) (.c (.gl g_PERSIST (fun _ => ⟨_, rfl⟩) y_PERSIST) (.c (.bin op_add (.lo n_78 l_now) (.cf g_probe_wait y_probe_wait kp_1022 (s_probe_wait e) (.c (.lo n_75 l_tcb) .nil))) .nil))))) .nil))))))
theorem s_output (e : Ev) : FnSim (XX e) 9 f_output 1008 2 := by
  have l_found : Lo D1008 "found" := by kernel_rfl
  have l_now : Lo D1008 "now" := by kernel_rfl
  have l_tcb : Lo D1008 "tcb" := by kernel_rfl
  have y_SYN_RECEIVED : Gl D1008 "SYN_RECEIVED" := by kernel_rfl
  have y_SYN_SENT : Gl D1008 "SYN_SENT" := by kernel_rfl
  have y_data_segments : Gl D1008 "data_segments" := by kernel_rfl
  have y_is_sending : Gl D1008 "is_sending" := by kernel_rfl
  have y_keep_timers : Gl D1008 "keep_timers" := by kernel_rfl
  have y_syn_segment : Gl D1008 "syn_segment" := by kernel_rfl
  have y_take_asked_fin : Gl D1008 "take_asked_fin" := by kernel_rfl
  exact FnSim.m0 e 8 2 D1008 rfl (fun _ _ _ => .of_eq (by kernel_rfl)) (.cons (.ex (.cf g_take_asked_fin y_take_asked_fin kp_994 (s_take_asked_fin e) (.c (.lo n_75 l_tcb) .nil))) (.cons (.an n_77 l_found (.list .nil)) (.cons (.ite (.rel op_in rfl (.at c_Tcb n_22 fa_Tcb_state (.lo n_75 l_tcb)) (.tup (.c (.gl g_SYN_SENT (fun _ => ⟨_, by rw [t_4]⟩) y_SYN_SENT) (.c (.gl g_SYN_RECEIVED (fun _ => ⟨_, by rw [t_6]⟩) y_SYN_RECEIVED) .nil)))) (.one (.ite (.rel op_eq rfl (.at c_Sender n_25 fa_Sender_next (.at c_Tcb n_37 fa_Tcb_sender (.lo n_75 l_tcb))) (.at c_Sender n_23 fa_Sender_iss (.at c_Tcb n_37 fa_Tcb_sender (.lo n_75 l_tcb)))) (.cons (.ex (.bmeth (T := 1) PySem.F.plainAttrs_list PySem.F.slot_list_append PySem.F.type_list_append (by exact fun _ => rfl) (by exact fun _ => rfl) b_append (.lo n_77 l_found) (.cf g_syn_segment y_syn_segment kp_980 (s_syn_segment e) (.c (.lo n_75 l_tcb) .nil)))) (.one (.ex (.me c_RetransmitClock n_114 fm_RetransmitClock_sent ty_293 kp_293 (s_RetransmitClock_sent e) (.at c_Tcb n_49 fa_Tcb_clock (.lo n_75 l_tcb)) (.c (.at c_Sender n_25 fa_Sender_next (.at c_Tcb n_37 fa_Tcb_sender (.lo n_75 l_tcb))) (.c (.lo n_78 l_now) .nil)))))) .nil)) (.one (.ite (.truth (.cf g_is_sending y_is_sending kp_779 (s_is_sending e) (.c (.at c_Tcb n_22 fa_Tcb_state (.lo n_75 l_tcb)) .nil)) (by exact fun _ _ => rfl)) (.one (.an n_77 l_found (.cf g_data_segments y_data_segments kp_1001 (s_data_segments e) (.c (.lo n_75 l_tcb) (.c (.lo n_78 l_now) .nil))))) .nil))) (.cons (.ex (.cf g_keep_timers y_keep_timers kp_1015 (s_keep_timers e) (.c (.lo n_75 l_tcb) (.c (.lo n_78 l_now) .nil)))) (.one (.ret (.lo n_77 l_found)))))))
theorem s_open_active (e : Ev) : FnSim (XX e) 10 f_open_active 945 2 := by
  have l_now : Lo D945 "now" := by kernel_rfl
  have l_tcb : Lo D945 "tcb" := by kernel_rfl
  have y_change_state : Gl D945 "change_state" := by kernel_rfl
  have y_output : Gl D945 "output" := by kernel_rfl
  exact FnSim.m0 e 9 2 D945 rfl (fun _ _ _ => .of_eq (by kernel_rfl)) (.cons (.ex (.cf g_change_state y_change_state kp_917 (s_change_state e) (.c (.lo n_75 l_tcb) (.c (.str t_2) .nil)))) (.one (.ret (.cf g_output y_output kp_1008 (s_output e) (.c (.lo n_75 l_tcb) (.c (.lo n_78 l_now) .nil))))))
theorem s_Sender_ever_sent (e : Ev) : FnSim (XX e) 3 f_Sender_ever_sent 624 1 := by
  have l_self : Lo D624 "self" := by kernel_rfl
  have y_distance : Gl D624 "distance" := by kernel_rfl
  exact FnSim.m0 e 2 1 D624 rfl (fun _ _ => .of_eq (by kernel_rfl)) (.one (.ret (.cf g_distance y_distance kp_103 (s_distance e) (.c (.at c_Sender n_24 fa_Sender_una (.lo n_1 l_self)) (.c (.at c_Sender n_26 fa_Sender_greatest (.lo n_1 l_self)) (.c (.at c_Sender n_7 fa_Sender_ring (.lo n_1 l_self)) .nil))))))
theorem s_SendQueue_drop (e : Ev) : FnSim (XX e) 2 f_SendQueue_drop 447 2 := by
  have l_many : Lo D447 "many" := by kernel_rfl
  have l_self : Lo D447 "self" := by kernel_rfl
  have y_len : Gl D447 "len" := by kernel_rfl
  exact FnSim.m0 e 1 2 D447 rfl (fun _ _ _ => .of_eq (by kernel_rfl)) (.cons (.ite (.or (.rel op_lt rfl (.lo n_109 l_many) .int) (.or1 (.rel op_gt rfl (.lo n_109 l_many) (.cb gn_len gb_len y_len b_len_ok (.c (.at c_SendQueue n_32 fa_SendQueue_held (.lo n_1 l_self)) .nil))))) (.one .bad) .nil) (.one (.as (.attr c_SendQueue n_32 tk_SendQueue_held (.lo n_1 l_self)) (.slc (fun _ _ _ => rfl) (.at c_SendQueue n_32 fa_SendQueue_held (.lo n_1 l_self)) (.some (.lo n_109 l_many)) SimP.none))))
theorem s_Sender_acked (e : Ev) : FnSim (XX e) 4 f_Sender_acked 673 2 := by
  have l_ack : Lo D673 "ack" := by kernel_rfl
  have l_ahead : Lo D673 "ahead" := by kernel_rfl
  have l_is_syn : Lo D673 "is_syn" := by kernel_rfl
  have l_many : Lo D673 "many" := by kernel_rfl
  have l_octets : Lo D673 "octets" := by kernel_rfl
  have l_self : Lo D673 "self" := by kernel_rfl
  have y_distance : Gl D673 "distance" := by kernel_rfl
  have y_int : Gl D673 "int" := by kernel_rfl
  have y_min : Gl D673 "min" := by kernel_rfl
  exact FnSim.m0 e 3 2 D673 rfl (fun _ _ _ => .of_eq (by kernel_rfl)) (.cons (.an n_109 l_many (.cf g_distance y_distance kp_103 (s_distance e) (.c (.at c_Sender n_24 fa_Sender_una (.lo n_1 l_self)) (.c (.lo n_79 l_ack) (.c (.at c_Sender n_7 fa_Sender_ring (.lo n_1 l_self)) .nil))))) (.cons (.ite (.or (.rel op_eq rfl (.lo n_109 l_many) .int) (.or1 (.rel op_gt rfl (.lo n_109 l_many) (.me c_Sender n_144 fm_Sender_ever_sent ty_624 kp_624 (s_Sender_ever_sent e) (.lo n_1 l_self) .nil)))) (.one (.ret (.tup (.c .int (.c .ff (.c .ff .nil)))))) .nil) (.cons (.an n_115 l_ahead (.me c_Sender n_116 fm_Sender_flight ty_539 kp_539 (s_Sender_flight e) (.lo n_1 l_self) .nil)) (.cons (.an n_145 l_is_syn (.at c_Sender n_34 fa_Sender_syn_pending (.lo n_1 l_self))) (.cons (.as (.attr c_Sender n_34 tk_Sender_syn_pending (.lo n_1 l_self)) .ff) (.cons (.an n_124 l_octets (.cb gn_min gb_min y_min b_min_ok (.c (.bin op_sub (.lo n_109 l_many) (.cb gn_int gb_int y_int b_int_ok (.c (.lo n_145 l_is_syn) .nil))) (.c (.me c_SendQueue n_5 fm_SendQueue_size ty_419 kp_419 (s_SendQueue_size e) (.at c_Sender n_33 fa_Sender_queue (.lo n_1 l_self)) .nil) .nil)))) (.cons (.ex (.me c_SendQueue n_146 fm_SendQueue_drop ty_447 kp_447 (s_SendQueue_drop e) (.at c_Sender n_33 fa_Sender_queue (.lo n_1 l_self)) (.c (.lo n_124 l_octets) .nil))) (.cons (.as (.attr c_Sender n_24 tk_Sender_una (.lo n_1 l_self)) (.lo n_79 l_ack)) (.cons (.ite (.rel op_lt rfl (.lo n_115 l_ahead) (.lo n_109 l_many)) (.one (.as (.attr c_Sender n_25 tk_Sender_next (.lo n_1 l_self)) (.lo n_79 l_ack))) .nil) (.one (.ret (.tup (.c (.lo n_124 l_octets) (.c (.lo n_145 l_is_syn) (.c (.val (.rel op_gt rfl (.bin op_sub (.lo n_109 l_many) (.cb gn_int gb_int y_int b_int_ok (.c (.lo n_145 l_is_syn) .nil))) (.lo n_124 l_octets))) .nil)))))))))))))))
theorem s_PeerWindow_is_newer (e : Ev) : FnSim (XX e) 3 f_PeerWindow_is_newer 475 3 := by
  have l_ack : Lo D475 "ack" := by kernel_rfl
  have l_ahead : Lo D475 "ahead" := by kernel_rfl
  have l_self : Lo D475 "self" := by kernel_rfl
  have l_seq : Lo D475 "seq" := by kernel_rfl
  have y_distance : Gl D475 "distance" := by kernel_rfl
  exact FnSim.m0 e 2 3 D475 rfl (fun _ _ _ _ => .of_eq (by kernel_rfl)) (.cons (.ite (.isNone (.at c_PeerWindow n_28 fa_PeerWindow_told_seq (.lo n_1 l_self))) (.one (.ret .tt)) .nil) (.cons (.an n_115 l_ahead (.cf g_distance y_distance kp_103 (s_distance e) (.c (.at c_PeerWindow n_28 fa_PeerWindow_told_seq (.lo n_1 l_self)) (.c (.lo n_103 l_seq) (.c (.at c_PeerWindow n_7 fa_PeerWindow_ring (.lo n_1 l_self)) .nil))))) (.cons (.ite (.rel op_eq rfl (.lo n_115 l_ahead) .int) (.one (.ret (.val (.rel op_lt rfl (.cf g_distance y_distance kp_103 (s_distance e) (.c (.at c_PeerWindow n_29 fa_PeerWindow_told_ack (.lo n_1 l_self)) (.c (.lo n_79 l_ack) (.c (.at c_PeerWindow n_7 fa_PeerWindow_ring (.lo n_1 l_self)) .nil)))) (.bin op_fdv (.at c_PeerWindow n_7 fa_PeerWindow_ring (.lo n_1 l_self)) .int))))) .nil) (.one (.ret (.val (.rel op_lt rfl (.lo n_115 l_ahead) (.bin op_fdv (.at c_PeerWindow n_7 fa_PeerWindow_ring (.lo n_1 l_self)) .int))))))))
theorem s_PeerWindow_take (e : Ev) : FnSim (XX e) 4 f_PeerWindow_take 482 4 := by
  have l_ack : Lo D482 "ack" := by kernel_rfl
  have l_self : Lo D482 "self" := by kernel_rfl
  have l_seq : Lo D482 "seq" := by kernel_rfl
  have l_size : Lo D482 "size" := by kernel_rfl
  have y_max : Gl D482 "max" := by kernel_rfl
  exact FnSim.m0 e 3 4 D482 rfl (fun _ _ _ _ _ => .of_eq (by kernel_rfl)) (.cons (.ite (.not (.truth (.me c_PeerWindow n_148 fm_PeerWindow_is_newer ty_475 kp_475 (s_PeerWindow_is_newer e) (.lo n_1 l_self) (.c (.lo n_103 l_seq) (.c (.lo n_79 l_ack) .nil))) (by exact fun _ _ => rfl))) (.one (.ret .ff)) .nil) (.cons (.as (.attr c_PeerWindow n_28 tk_PeerWindow_told_seq (.lo n_1 l_self)) (.lo n_103 l_seq)) (.cons (.as (.attr c_PeerWindow n_29 tk_PeerWindow_told_ack (.lo n_1 l_self)) (.lo n_79 l_ack)) (.cons (.as (.attr c_PeerWindow n_5 tk_PeerWindow_size (.lo n_1 l_self)) (.lo n_5 l_size)) (.cons (.as (.attr c_PeerWindow n_27 tk_PeerWindow_most (.lo n_1 l_self)) (.cb gn_max gb_max y_max b_max_ok (.c (.at c_PeerWindow n_27 fa_PeerWindow_most (.lo n_1 l_self)) (.c (.lo n_5 l_size) .nil)))) (.one (.ret .tt)))))))
theorem s_Sender_take_window (e : Ev) : FnSim (XX e) 5 f_Sender_take_window 518 4 := by
  have l_ack : Lo D518 "ack" := by kernel_rfl
  have l_self : Lo D518 "self" := by kernel_rfl
  have l_seq : Lo D518 "seq" := by kernel_rfl
  have l_window : Lo D518 "window" := by kernel_rfl
  exact FnSim.m0 e 4 4 D518 rfl (fun _ _ _ _ _ => .of_eq (by kernel_rfl)) (.one (.ret (.me c_PeerWindow n_149 fm_PeerWindow_take ty_482 kp_482 (s_PeerWindow_take e) (.at c_Sender n_3 fa_Sender_peer (.lo n_1 l_self)) (.c (.lo n_103 l_seq) (.c (.lo n_79 l_ack) (.c (.lo n_101 l_window) .nil))))))
theorem s__law_open (e : Ev) : FnSim (XX e) 11 f__law_open 1332 1 := by
  have l_limits : Lo D1332 "limits" := by kernel_rfl
  have l_tcb : Lo D1332 "tcb" := by kernel_rfl
  have y_Tcb : Gl D1332 "Tcb" := by kernel_rfl
  have y_change_state : Gl D1332 "change_state" := by kernel_rfl
  have y_open_active : Gl D1332 "open_active" := by kernel_rfl
  have y_output : Gl D1332 "output" := by kernel_rfl
  exact FnSim.m0 e 10 1 D1332 rfl (fun _ _ => .of_eq (by kernel_rfl)) (.cons (.an n_75 l_tcb (.cc g_Tcb y_Tcb kc_Tcb mk_Tcb fm_Tcb___init__ ty_888 (s_Tcb___init__ e) (.c (.lo n_18 l_limits) (.c (.tup (.c .int (.c .int .nil))) (.c (.tup (.c .int (.c .int .nil))) (.c .int .nil)))))) (.cons (.ex (.cf g_open_active y_open_active kp_945 (s_open_active e) (.c (.lo n_75 l_tcb) (.c .int .nil)))) (.cons (.ex (.me c_Sender n_147 fm_Sender_acked ty_673 kp_673 (s_Sender_acked e) (.at c_Tcb n_37 fa_Tcb_sender (.lo n_75 l_tcb)) (.c (.at c_Sender n_25 fa_Sender_next (.at c_Tcb n_37 fa_Tcb_sender (.lo n_75 l_tcb))) .nil))) (.cons (.ex (.cf g_change_state y_change_state kp_917 (s_change_state e) (.c (.lo n_75 l_tcb) (.c (.str t_7) .nil)))) (.cons (.ex (.cf g_output y_output kp_1008 (s_output e) (.c (.lo n_75 l_tcb) (.c .int .nil)))) (.cons (.ex (.me c_Sender n_150 fm_Sender_take_window ty_518 kp_518 (s_Sender_take_window e) (.at c_Tcb n_37 fa_Tcb_sender (.lo n_75 l_tcb)) (.c .int (.c (.at c_Sender n_24 fa_Sender_una (.at c_Tcb n_37 fa_Tcb_sender (.lo n_75 l_tcb))) (.c .int .nil))))) (.cons (.as (.attr c_Congestion n_5 tk_Congestion_size (.at c_Tcb n_56 fa_Tcb_congestion (.lo n_75 l_tcb))) .int) (.one (.ret (.lo n_75 l_tcb))))))))))
theorem s_check_error (e : Ev) : FnSim (XX e) 2 f_check_error 938 1 := by
  have l_tcb : Lo D938 "tcb" := by kernel_rfl
  exact FnSim.m0 e 1 1 D938 rfl (fun _ _ => .of_eq (by kernel_rfl)) (.cons (.ite (.rel op_eq rfl (.at c_Tcb n_71 fa_Tcb_error (.lo n_75 l_tcb)) (.str t_24)) (.one .bad) .nil) (.one (.ite (.isNotNone (.at c_Tcb n_71 fa_Tcb_error (.lo n_75 l_tcb))) (.one .bad) .nil)))
theorem s_may_send (e : Ev) : FnSim (XX e) 2 f_may_send 772 1 := by
  have l_state : Lo D772 "state" := by kernel_rfl
  have y_CLOSE_WAIT : Gl D772 "CLOSE_WAIT" := by kernel_rfl
  have y_ESTABLISHED : Gl D772 "ESTABLISHED" := by kernel_rfl
  have y_SYN_RECEIVED : Gl D772 "SYN_RECEIVED" := by kernel_rfl
  have y_SYN_SENT : Gl D772 "SYN_SENT" := by kernel_rfl
  exact FnSim.m0 e 1 1 D772 rfl (fun _ _ => .of_eq (by kernel_rfl)) (.one (.ret (.val (.rel op_in rfl (.lo n_22 l_state) (.tup (.c (.gl g_SYN_SENT (fun _ => ⟨_, by rw [t_4]⟩) y_SYN_SENT) (.c (.gl g_SYN_RECEIVED (fun _ => ⟨_, by rw [t_6]⟩) y_SYN_RECEIVED) (.c (.gl g_ESTABLISHED (fun _ => ⟨_, by rw [t_8]⟩) y_ESTABLISHED) (.c (.gl g_CLOSE_WAIT (fun _ => ⟨_, by rw [t_12]⟩) y_CLOSE_WAIT) .nil)))))))))
theorem s_SendQueue_room_left (e : Ev) : FnSim (XX e) 2 f_SendQueue_room_left 426 1 := by
  have l_self : Lo D426 "self" := by kernel_rfl
  have y_len : Gl D426 "len" := by kernel_rfl
  exact FnSim.m0 e 1 1 D426 rfl (fun _ _ => .of_eq (by kernel_rfl)) (.one (.ret (.bin op_sub (.at c_SendQueue n_30 fa_SendQueue_room (.lo n_1 l_self)) (.cb gn_len gb_len y_len b_len_ok (.c (.at c_SendQueue n_32 fa_SendQueue_held (.lo n_1 l_self)) .nil)))))
theorem s_SendQueue_put (e : Ev) : FnSim (XX e) 3 f_SendQueue_put 433 2 := by
  have l_octets : Lo D433 "octets" := by kernel_rfl
  have l_self : Lo D433 "self" := by kernel_rfl
  have l_taken : Lo D433 "taken" := by kernel_rfl
  have y_bytes : Gl D433 "bytes" := by kernel_rfl
  have y_len : Gl D433 "len" := by kernel_rfl
  have y_min : Gl D433 "min" := by kernel_rfl
  exact FnSim.m0 e 2 2 D433 rfl (fun _ _ _ => .of_eq (by kernel_rfl)) (.cons (.an n_152 l_taken (.cb gn_min gb_min y_min b_min_ok (.c (.cb gn_len gb_len y_len b_len_ok (.c (.lo n_124 l_octets) .nil)) (.c (.me c_SendQueue n_151 fm_SendQueue_room_left ty_426 kp_426 (s_SendQueue_room_left e) (.lo n_1 l_self) .nil) .nil)))) (.cons (.as (.attr c_SendQueue n_32 tk_SendQueue_held (.lo n_1 l_self)) (.bin op_add (.at c_SendQueue n_32 fa_SendQueue_held (.lo n_1 l_self)) (.cb gn_bytes gb_bytes y_bytes b_bytes_ok (.c (.slc (fun _ _ _ => rfl) (.lo n_124 l_octets) SimP.none (.some (.lo n_152 l_taken))) .nil)))) (.one (.ret (.lo n_152 l_taken)))))
theorem s_Sender_put (e : Ev) : FnSim (XX e) 4 f_Sender_put 525 2 := by
  have l_octets : Lo D525 "octets" := by kernel_rfl
  have l_self : Lo D525 "self" := by kernel_rfl
  exact FnSim.m0 e 3 2 D525 rfl (fun _ _ _ => .of_eq (by kernel_rfl)) (.cons (.ite (.truth (.at c_Sender n_35 fa_Sender_fin_asked (.lo n_1 l_self)) (by exact fun _ _ => rfl)) (.one .bad) .nil) (.one (.ret (.me c_SendQueue n_141 fm_SendQueue_put ty_433 kp_433 (s_SendQueue_put e) (.at c_Sender n_33 fa_Sender_queue (.lo n_1 l_self)) (.c (.lo n_124 l_octets) .nil)))))
theorem s_send (e : Ev) : FnSim (XX e) 10 f_send 952 3 := by
  have l_now : Lo D952 "now" := by kernel_rfl
  have l_octets : Lo D952 "octets" := by kernel_rfl
  have l_taken : Lo D952 "taken" := by kernel_rfl
  have l_tcb : Lo D952 "tcb" := by kernel_rfl
  have y_check_error : Gl D952 "check_error" := by kernel_rfl
  have y_may_send : Gl D952 "may_send" := by kernel_rfl
  have y_output : Gl D952 "output" := by kernel_rfl
  exact FnSim.m0 e 9 3 D952 rfl (fun _ _ _ _ => .of_eq (by kernel_rfl)) (.cons (.ex (.cf g_check_error y_check_error kp_938 (s_check_error e) (.c (.lo n_75 l_tcb) .nil))) (.cons (.ite (.or (.not (.truth (.cf g_may_send y_may_send kp_772 (s_may_send e) (.c (.at c_Tcb n_22 fa_Tcb_state (.lo n_75 l_tcb)) .nil)) (by exact fun _ _ => rfl))) (.or1 (.truth (.at c_Sender n_35 fa_Sender_fin_asked (.at c_Tcb n_37 fa_Tcb_sender (.lo n_75 l_tcb))) (by exact fun _ _ => rfl)))) (.one .bad) .nil) (.cons (.an n_152 l_taken (.me c_Sender n_141 fm_Sender_put ty_525 kp_525 (s_Sender_put e) (.at c_Tcb n_37 fa_Tcb_sender (.lo n_75 l_tcb)) (.c (.lo n_124 l_octets) .nil))) (.one (.ret (.tup (.c (.lo n_152 l_taken) (.c (.cf g_output y_output kp_1008 (s_output e) (.c (.lo n_75 l_tcb) (.c (.lo n_78 l_now) .nil))) .nil))))))))
theorem s_closed (e : Ev) : FnSim (XX e) 3 f_closed 924 2 := by
  have l_error : Lo D924 "error" := by kernel_rfl
  have l_key : Lo D924 "key" := by kernel_rfl
  have l_tcb : Lo D924 "tcb" := by kernel_rfl
  have y_CLOSED : Gl D924 "CLOSED" := by kernel_rfl
  have y_DELAYED : Gl D924 "DELAYED" := by kernel_rfl
  have y_PERSIST : Gl D924 "PERSIST" := by kernel_rfl
  have y_RESEND : Gl D924 "RESEND" := by kernel_rfl
  have y_WAIT : Gl D924 "WAIT" := by kernel_rfl
  exact FnSim.m0 e 2 2 D924 rfl (fun _ _ _ => .of_eq (by kernel_rfl)) (.cons (.as (.attr c_Tcb n_22 tk_Tcb_state (.lo n_75 l_tcb)) (.gl g_CLOSED (fun _ => ⟨_, by rw [t_1]⟩) y_CLOSED)) (.cons (.ite (.isNotNone (.lo n_71 l_error)) (.one (.as (.attr c_Tcb n_71 tk_Tcb_error (.lo n_75 l_tcb)) (.lo n_71 l_error))) .nil) (.one (.for_ (by exact fun _ _ => rfl) (by exact fun _ _ => rfl) (.name n_83 l_key.l) (.tup (.c (.gl g_RESEND (fun _ => ⟨_, rfl⟩) y_RESEND) (.c (.gl g_PERSIST (fun _ => ⟨_, rfl⟩) y_PERSIST) (.c (.gl g_DELAYED (fun _ => ⟨_, rfl⟩) y_DELAYED) (.c (.gl g_WAIT (fun _ => ⟨_, rfl⟩) y_WAIT) .nil))))) (.one (.ex (.me c_Wheel n_87 fm_Wheel_cancel ty_813 kp_813 (s_Wheel_cancel e) (.at c_Tcb n_70 fa_Tcb_wheel (.lo n_75 l_tcb)) (.c (.lo n_83 l_key) .nil))))))))
theorem s_Sender_ask_fin (e : Ev) : FnSim (XX e) 2 f_Sender_ask_fin 532 1 := by
  have l_self : Lo D532 "self" := by kernel_rfl
  exact FnSim.m0 e 1 1 D532 rfl (fun _ _ => .of_eq (by kernel_rfl)) (.one (.as (.attr c_Sender n_35 tk_Sender_fin_asked (.lo n_1 l_self)) .tt))
theorem s_close (e : Ev) : FnSim (XX e) 10 f_close 959 2 := by
  have l_now : Lo D959 "now" := by kernel_rfl
  have l_tcb : Lo D959 "tcb" := by kernel_rfl
  have y_LISTEN : Gl D959 "LISTEN" := by kernel_rfl
  have y_SYN_SENT : Gl D959 "SYN_SENT" := by kernel_rfl
  have y_closed : Gl D959 "closed" := by kernel_rfl
  have y_follow : Gl D959 "follow" := by kernel_rfl
  have y_output : Gl D959 "output" := by kernel_rfl
  exact FnSim.m0 e 9 2 D959 rfl (fun _ _ _ => .of_eq (by kernel_rfl)) (.cons (.ite (.truth (.at c_Sender n_35 fa_Sender_fin_asked (.at c_Tcb n_37 fa_Tcb_sender (.lo n_75 l_tcb))) (by exact fun _ _ => rfl)) (.one .bad) .nil) (.cons (.ite (.isNone (.cf g_follow y_follow kp_765 (s_follow e) (.c (.at c_Tcb n_22 fa_Tcb_state (.lo n_75 l_tcb)) (.c (.str t_10) .nil)))) (.one .bad) .nil) (.cons (.ite (.rel op_in rfl (.at c_Tcb n_22 fa_Tcb_state (.lo n_75 l_tcb)) (.tup (.c (.gl g_LISTEN (fun _ => ⟨_, by rw [t_3]⟩) y_LISTEN) (.c (.gl g_SYN_SENT (fun _ => ⟨_, by rw [t_4]⟩) y_SYN_SENT) .nil)))) (.cons (.ex (.cf g_closed y_closed kp_924 (s_closed e) (.c (.lo n_75 l_tcb) (.c SimE.none' .nil)))) (.one (.ret (.list .nil)))) .nil) (.cons (.ex (.me c_Sender n_154 fm_Sender_ask_fin ty_532 kp_532 (s_Sender_ask_fin e) (.at c_Tcb n_37 fa_Tcb_sender (.lo n_75 l_tcb)) .nil)) (.one (.ret (.cf g_output y_output kp_1008 (s_output e) (.c (.lo n_75 l_tcb) (.c (.lo n_78 l_now) .nil)))))))))
theorem s_Wheel_keys_until (e : Ev) : FnSim (XX e) 2 f_Wheel_keys_until 839 2 := by
  have l_found : Lo D839 "found" := by kernel_rfl
  have l_now : Lo D839 "now" := by kernel_rfl
  have l_self : Lo D839 "self" := by kernel_rfl
  have l_time : Lo D839 "time" := by kernel_rfl
  have y_list : Gl D839 "list" := by kernel_rfl
  have y_range : Gl D839 "range" := by kernel_rfl
  exact FnSim.m0 e 1 2 D839 rfl (fun _ _ _ => .of_eq (by kernel_rfl)) (.cons (.ite (.or (.isNone (.at c_Wheel n_68 fa_Wheel_reached (.lo n_1 l_self))) (.or1 (.rel op_ge rfl (.bin op_sub (.lo n_78 l_now) (.at c_Wheel n_68 fa_Wheel_reached (.lo n_1 l_self))) (.at c_Wheel n_5 fa_Wheel_size (.lo n_1 l_self))))) (.one (.ret (.cb gn_list gb_list y_list b_list_ok (.c (.at c_Wheel n_67 fa_Wheel_entries (.lo n_1 l_self)) .nil)))) .nil) (.cons (.an n_77 l_found (.cb gn_list gb_list y_list b_list_ok (.c (.at c_Wheel n_66 fa_Wheel_late (.lo n_1 l_self)) .nil))) (.cons (.for_ (by exact fun _ _ => rfl) (by exact fun _ _ => rfl) (.name n_84 l_time.l) (.cb gn_range gb_range y_range b_range_ok (.c (.bin op_add (.at c_Wheel n_68 fa_Wheel_reached (.lo n_1 l_self)) .int) (.c (.bin op_add (.lo n_78 l_now) .int) .nil))) (.one (.an n_77 l_found (.bin op_add (.lo n_77 l_found) (.sub (fun _ _ => by kernel_rfl) (.at c_Wheel n_65 fa_Wheel_slots (.lo n_1 l_self)) (.bin op_mod (.lo n_84 l_time) (.at c_Wheel n_5 fa_Wheel_size (.lo n_1 l_self)))))))) (.one (.ret (.lo n_77 l_found))))))
theorem s_Wheel_due (e : Ev) : FnSim (XX e) 3 f_Wheel_due 832 2 := by
  have l_found : Lo D832 "found" := by kernel_rfl
  have l_key : Lo D832 "key" := by kernel_rfl
  have l_now : Lo D832 "now" := by kernel_rfl
  have l_order : Lo D832 "order" := by kernel_rfl
  have l_self : Lo D832 "self" := by kernel_rfl
  have l_time : Lo D832 "time" := by kernel_rfl
  exact FnSim.m0 e 2 2 D832 rfl (fun _ _ _ => .of_eq (by kernel_rfl)) (.cons (.an n_77 l_found (.list .nil)) (.cons (.for_ (by exact fun _ _ => rfl) (by exact fun _ _ => rfl) (.name n_83 l_key.l) (.me c_Wheel n_156 fm_Wheel_keys_until ty_839 kp_839 (s_Wheel_keys_until e) (.lo n_1 l_self) (.c (.lo n_78 l_now) .nil)) (.cons (.as (.tup (by exact fun _ => rfl) (.cons (.name n_84 l_time.l) (.cons (.name n_85 l_order.l) .nil))) (.sub (fun _ _ => by kernel_rfl) (.at c_Wheel n_67 fa_Wheel_entries (.lo n_1 l_self)) (.lo n_83 l_key))) (.one (.ite (.rel op_le rfl (.lo n_84 l_time) (.lo n_78 l_now)) (.one (.ex (.bmeth (T := 1) PySem.F.plainAttrs_list PySem.F.slot_list_append PySem.F.type_list_append (by exact fun _ => rfl) (by exact fun _ => rfl) b_append (.lo n_77 l_found) (.tup (.c (.lo n_84 l_time) (.c (.lo n_85 l_order) (.c (.lo n_83 l_key) .nil))))))) .nil)))) (.cons (.forL (by exact fun _ _ => rfl) (.tup (by exact fun _ => rfl) (.cons (.name n_84 l_time.l) (.cons (.name n_85 l_order.l) (.cons (.name n_83 l_key.l) .nil)))) (.lo n_77 l_found) (.one (.ex (.me c_Wheel n_87 fm_Wheel_cancel ty_813 kp_813 (s_Wheel_cancel e) (.lo n_1 l_self) (.c (.lo n_83 l_key) .nil))))) (.cons (.ite (.or (.isNone (.at c_Wheel n_68 fa_Wheel_reached (.lo n_1 l_self))) (.or1 (.rel op_gt rfl (.lo n_78 l_now) (.at c_Wheel n_68 fa_Wheel_reached (.lo n_1 l_self))))) (.one (.as (.attr c_Wheel n_68 tk_Wheel_reached (.lo n_1 l_self)) (.lo n_78 l_now))) .nil) (.one (.ret (.compL (by exact fun _ _ => rfl) (by decide +kernel) (by decide +kernel) rfl (by decide +kernel) (.tup (by exact fun _ => rfl) (.cons (.name n_84 (by kernel_rfl)) (.cons (.name n_85 (by kernel_rfl)) (.cons (.name n_83 (by kernel_rfl)) .nil)))) (.lo n_83 (by kernel_rfl)) (.cb gn_sorted gb_sorted (by kernel_rfl) b_sorted_ok (.c (.lo n_77 (by kernel_rfl)) .nil)))))))))
theorem s_Congestion_halved (e : Ev) : FnSim (XX e) 2 f_Congestion_halved 216 2 := by
  have l_flight : Lo D216 "flight" := by kernel_rfl
  have l_half : Lo D216 "half" := by kernel_rfl
  have l_self : Lo D216 "self" := by kernel_rfl
  exact FnSim.m0 e 1 2 D216 rfl (fun _ _ _ => .of_eq (by kernel_rfl)) (.cons (.an n_157 l_half (.bin op_fdv (.lo n_116 l_flight) .int)) (.one (.ret (.ifx (.rel op_gt rfl (.lo n_157 l_half) (.bin op_mul .int (.at c_Congestion n_9 fa_Congestion_mss (.lo n_1 l_self)))) (.lo n_157 l_half) (.bin op_mul .int (.at c_Congestion n_9 fa_Congestion_mss (.lo n_1 l_self)))))))
theorem s_Congestion_timed_out (e : Ev) : FnSim (XX e) 3 f_Congestion_timed_out 258 2 := by
  have l_flight : Lo D258 "flight" := by kernel_rfl
  have l_self : Lo D258 "self" := by kernel_rfl
  exact FnSim.m0 e 2 2 D258 rfl (fun _ _ _ => .of_eq (by kernel_rfl)) (.cons (.as (.attr c_Congestion n_51 tk_Congestion_threshold (.lo n_1 l_self)) (.me c_Congestion n_158 fm_Congestion_halved ty_216 kp_216 (s_Congestion_halved e) (.lo n_1 l_self) (.c (.lo n_116 l_flight) .nil))) (.cons (.as (.attr c_Congestion n_5 tk_Congestion_size (.lo n_1 l_self)) (.at c_Congestion n_9 fa_Congestion_mss (.lo n_1 l_self))) (.cons (.as (.attr c_Congestion n_52 tk_Congestion_gathered (.lo n_1 l_self)) .int) (.cons (.as (.attr c_Congestion n_53 tk_Congestion_duplicates (.lo n_1 l_self)) .int) (.cons (.as (.attr c_Congestion n_54 tk_Congestion_is_recovering (.lo n_1 l_self)) .ff) (.one (.as (.attr c_Congestion n_55 tk_Congestion_is_cautious (.lo n_1 l_self)) .tt)))))))
theorem s_RetransmitClock_back_off (e : Ev) : FnSim (XX e) 2 f_RetransmitClock_back_off 314 1 := by
  have l_self : Lo D314 "self" := by kernel_rfl
  exact FnSim.m0 e 1 1 D314 rfl (fun _ _ => .of_eq (by kernel_rfl)) (.cons (.as (.attr c_RetransmitClock n_47 tk_RetransmitClock_timed_end (.lo n_1 l_self)) SimE.none') (.cons (.as (.attr c_RetransmitClock n_6 tk_RetransmitClock_tries (.lo n_1 l_self)) (.bin op_add (.at c_RetransmitClock n_6 fa_RetransmitClock_tries (.lo n_1 l_self)) .int)) (.one (.ret (.val (.rel op_le rfl (.at c_RetransmitClock n_6 fa_RetransmitClock_tries (.lo n_1 l_self)) (.at c_RetransmitClock n_15 fa_RetransmitClock_most_tries (.lo n_1 l_self))))))))
theorem s_Sender_back_to (e : Ev) : FnSim (XX e) 4 f_Sender_back_to 645 2 := by
  have l_self : Lo D645 "self" := by kernel_rfl
  have l_seq : Lo D645 "seq" := by kernel_rfl
  have y_distance : Gl D645 "distance" := by kernel_rfl
  exact FnSim.m0 e 3 2 D645 rfl (fun _ _ _ => .of_eq (by kernel_rfl)) (.cons (.ite (.rel op_gt rfl (.cf g_distance y_distance kp_103 (s_distance e) (.c (.at c_Sender n_24 fa_Sender_una (.lo n_1 l_self)) (.c (.lo n_103 l_seq) (.c (.at c_Sender n_7 fa_Sender_ring (.lo n_1 l_self)) .nil)))) (.me c_Sender n_116 fm_Sender_flight ty_539 kp_539 (s_Sender_flight e) (.lo n_1 l_self) .nil)) (.one .bad) .nil) (.one (.as (.attr c_Sender n_25 tk_Sender_next (.lo n_1 l_self)) (.lo n_103 l_seq))))
theorem s_RetransmitClock_forget (e : Ev) : FnSim (XX e) 2 f_RetransmitClock_forget 300 1 := by
  have l_self : Lo D300 "self" := by kernel_rfl
  exact FnSim.m0 e 1 1 D300 rfl (fun _ _ => .of_eq (by kernel_rfl)) (.one (.as (.attr c_RetransmitClock n_47 tk_RetransmitClock_timed_end (.lo n_1 l_self)) SimE.none'))
theorem s_Sender_reach (e : Ev) : FnSim (XX e) 4 f_Sender_reach 638 2 := by
  have l_many : Lo D638 "many" := by kernel_rfl
  have l_self : Lo D638 "self" := by kernel_rfl
  have y_plus : Gl D638 "plus" := by kernel_rfl
  exact FnSim.m0 e 3 2 D638 rfl (fun _ _ _ => .of_eq (by kernel_rfl)) (.one (.ite (.rel op_lt rfl (.me c_Sender n_116 fm_Sender_flight ty_539 kp_539 (s_Sender_flight e) (.lo n_1 l_self) .nil) (.lo n_109 l_many)) (.one (.as (.attr c_Sender n_25 tk_Sender_next (.lo n_1 l_self)) (.cf g_plus y_plus kp_96 (s_plus e) (.c (.at c_Sender n_24 fa_Sender_una (.lo n_1 l_self)) (.c (.lo n_109 l_many) (.c (.at c_Sender n_7 fa_Sender_ring (.lo n_1 l_self)) .nil)))))) .nil))
theorem s_Sender_first_piece (e : Ev) : FnSim (XX e) 5 f_Sender_first_piece 631 1 := by
  have l_has_fin : Lo D631 "has_fin" := by kernel_rfl
  have l_many : Lo D631 "many" := by kernel_rfl
  have l_self : Lo D631 "self" := by kernel_rfl
  have l_size : Lo D631 "size" := by kernel_rfl
  have y_int : Gl D631 "int" := by kernel_rfl
  have y_min : Gl D631 "min" := by kernel_rfl
  exact FnSim.m0 e 4 1 D631 rfl (fun _ _ => .of_eq (by kernel_rfl)) (.cons (.an n_109 l_many (.me c_Sender n_144 fm_Sender_ever_sent ty_624 kp_624 (s_Sender_ever_sent e) (.lo n_1 l_self) .nil)) (.cons (.ite (.rel op_eq rfl (.lo n_109 l_many) .int) (.one (.ret SimE.none')) .nil) (.cons (.ite (.truth (.at c_Sender n_34 fa_Sender_syn_pending (.lo n_1 l_self)) (by exact fun _ _ => rfl)) (.cons (.ex (.me c_Sender n_163 fm_Sender_reach ty_638 kp_638 (s_Sender_reach e) (.lo n_1 l_self) (.c .int .nil))) (.one (.ret (.tup (.c (.at c_Sender n_23 fa_Sender_iss (.lo n_1 l_self)) (.c (.bytes (by kernel_rfl) (by decide)) (.c .tt (.c .ff .nil)))))))) .nil) (.cons (.an n_5 l_size (.cb gn_min gb_min y_min b_min_ok (.c (.at c_Sender n_9 fa_Sender_mss (.lo n_1 l_self)) (.c (.me c_SendQueue n_5 fm_SendQueue_size ty_419 kp_419 (s_SendQueue_size e) (.at c_Sender n_33 fa_Sender_queue (.lo n_1 l_self)) .nil) (.c (.lo n_109 l_many) .nil))))) (.cons (.an n_98 l_has_fin (.val (.and (.truth (.at c_Sender n_36 fa_Sender_fin_sent (.lo n_1 l_self))) (.and (.rel op_eq rfl (.lo n_5 l_size) (.me c_SendQueue n_5 fm_SendQueue_size ty_419 kp_419 (s_SendQueue_size e) (.at c_Sender n_33 fa_Sender_queue (.lo n_1 l_self)) .nil)) (.and1 (.rel op_gt rfl (.lo n_109 l_many) (.lo n_5 l_size))))))) (.cons (.ex (.me c_Sender n_163 fm_Sender_reach ty_638 kp_638 (s_Sender_reach e) (.lo n_1 l_self) (.c (.bin op_add (.lo n_5 l_size) (.cb gn_int gb_int y_int b_int_ok (.c (.lo n_98 l_has_fin) .nil))) .nil))) (.one (.ret (.tup (.c (.at c_Sender n_24 fa_Sender_una (.lo n_1 l_self)) (.c (.me c_SendQueue n_123 fm_SendQueue_part ty_440 kp_440 (s_SendQueue_part e) (.at c_Sender n_33 fa_Sender_queue (.lo n_1 l_self)) (.c .int (.c (.lo n_5 l_size) .nil))) (.c .ff (.c (.lo n_98 l_has_fin) .nil)))))))))))))
theorem s_segment_again (e : Ev) : FnSim (XX e) 8 f_segment_again 1043 1 := by
  have l_has_fin : Lo D1043 "has_fin" := by kernel_rfl
  have l_has_syn : Lo D1043 "has_syn" := by kernel_rfl
  have l_octets : Lo D1043 "octets" := by kernel_rfl
  have l_seq : Lo D1043 "seq" := by kernel_rfl
  have l_tcb : Lo D1043 "tcb" := by kernel_rfl
  have y_SYN : Gl D1043 "SYN" := by kernel_rfl
  have y_flags_of : Gl D1043 "flags_of" := by kernel_rfl
  exact FnSim.m0 e 7 1 D1043 rfl (fun _ _ => .of_eq (by kernel_rfl)) (.cons (.ex (.me c_RetransmitClock n_162 fm_RetransmitClock_forget ty_300 kp_300 (s_RetransmitClock_forget e) (.at c_Tcb n_49 fa_Tcb_clock (.lo n_75 l_tcb)) .nil)) (.cons (.as (.tup (by exact fun _ => rfl) (.cons (.name n_103 l_seq.l) (.cons (.name n_124 l_octets.l) (.cons (.name n_165 l_has_syn.l) (.cons (.name n_98 l_has_fin.l) .nil))))) (.me c_Sender n_164 fm_Sender_first_piece ty_631 kp_631 (s_Sender_first_piece e) (.at c_Tcb n_37 fa_Tcb_sender (.lo n_75 l_tcb)) .nil)) (.cons (.ite (.truth (.lo n_165 l_has_syn) (by exact fun _ _ => rfl)) (.one (.ret (.me c_Tcb n_112 fm_Tcb_make ty_903 kp_903 (s_Tcb_make_3 e) (.lo n_75 l_tcb) (.c (.gl g_SYN (fun _ => ⟨_, rfl⟩) y_SYN) (.c (.lo n_103 l_seq) .nil))))) .nil) (.one (.ret (.me c_Tcb n_112 fm_Tcb_make ty_903 kp_903 (s_Tcb_make_4 e) (.lo n_75 l_tcb) (.c (.cf g_flags_of y_flags_of kp_987 (s_flags_of e) (.c .tt (.c (.lo n_98 l_has_fin) .nil))) (.c (.lo n_103 l_seq) (.c (.lo n_124 l_octets) .nil)))))))))
theorem s_sent_again (e : Ev) : FnSim (XX e) 9 f_sent_again 1036 2 := by
  have l_flight : Lo D1036 "flight" := by kernel_rfl
  have l_found : Lo D1036 "found" := by kernel_rfl
  have l_now : Lo D1036 "now" := by kernel_rfl
  have l_tcb : Lo D1036 "tcb" := by kernel_rfl
  have y_RESEND : Gl D1036 "RESEND" := by kernel_rfl
  have y_closed : Gl D1036 "closed" := by kernel_rfl
  have y_segment_again : Gl D1036 "segment_again" := by kernel_rfl
  exact FnSim.m0 e 8 2 D1036 rfl (fun _ _ _ => .of_eq (by kernel_rfl)) (.cons (.an n_116 l_flight (.me c_Sender n_116 fm_Sender_flight ty_539 kp_539 (s_Sender_flight e) (.at c_Tcb n_37 fa_Tcb_sender (.lo n_75 l_tcb)) .nil)) (.cons (.ite (.rel op_eq rfl (.lo n_116 l_flight) .int) (.one (.ret (.list .nil))) .nil) (.cons (.ex (.me c_Congestion n_159 fm_Congestion_timed_out ty_258 kp_258 (s_Congestion_timed_out e) (.at c_Tcb n_56 fa_Tcb_congestion (.lo n_75 l_tcb)) (.c (.lo n_116 l_flight) .nil))) (.cons (.ite (.not (.truth (.me c_RetransmitClock n_160 fm_RetransmitClock_back_off ty_314 kp_314 (s_RetransmitClock_back_off e) (.at c_Tcb n_49 fa_Tcb_clock (.lo n_75 l_tcb)) .nil) (by exact fun _ _ => rfl))) (.cons (.ex (.cf g_closed y_closed kp_924 (s_closed e) (.c (.lo n_75 l_tcb) (.c (.str t_24) .nil)))) (.one (.ret (.list .nil)))) .nil) (.cons (.ex (.me c_Sender n_161 fm_Sender_back_to ty_645 kp_645 (s_Sender_back_to e) (.at c_Tcb n_37 fa_Tcb_sender (.lo n_75 l_tcb)) (.c (.at c_Sender n_24 fa_Sender_una (.at c_Tcb n_37 fa_Tcb_sender (.lo n_75 l_tcb))) .nil))) (.cons (.an n_77 l_found (.list (.c (.cf g_segment_again y_segment_again kp_1043 (s_segment_again e) (.c (.lo n_75 l_tcb) .nil)) .nil))) (.cons (.ex (.me c_Wheel n_141 fm_Wheel_put ty_799 kp_799 (s_Wheel_put e) (.at c_Tcb n_70 fa_Tcb_wheel (.lo n_75 l_tcb)) (.c (.gl g_RESEND (fun _ => ⟨_, rfl⟩) y_RESEND) (.c (.me c_RetransmitClock n_140 fm_RetransmitClock_deadline ty_335 kp_335 (s_RetransmitClock_deadline e) (.at c_Tcb n_49 fa_Tcb_clock (.lo n_75 l_tcb)) (.c (.lo n_78 l_now) .nil)) .nil)))) (.one (.ret (.lo n_77 l_found))))))))))
theorem s_Sender_probe (e : Ev) : FnSim (XX e) 8 f_Sender_probe 666 1 := by
  have l_self : Lo D666 "self" := by kernel_rfl
  have y_latest : Gl D666 "latest" := by kernel_rfl
  have y_min : Gl D666 "min" := by kernel_rfl
  have y_plus : Gl D666 "plus" := by kernel_rfl
  exact FnSim.m0 e 7 1 D666 rfl (fun _ _ => .of_eq (by kernel_rfl)) (.cons (.ite (.not (.truth (.me c_Sender n_143 fm_Sender_needs_probe ty_659 kp_659 (s_Sender_needs_probe e) (.lo n_1 l_self) .nil) (by exact fun _ _ => rfl))) (.one (.ret SimE.none')) .nil) (.cons (.ite (.rel op_gt rfl (.prop c_Sender n_101 (pw_fo e) (pw_rec e) (by exact fun _ _ => rfl) (s_Sender_window e) (by decide) (.lo n_1 l_self)) .int) (.one (.ret (.me c_Sender n_126 fm_Sender_piece_of ty_617 kp_617 (s_Sender_piece_of e) (.lo n_1 l_self) (.c (.cb gn_min gb_min y_min b_min_ok (.c (.at c_Sender n_9 fa_Sender_mss (.lo n_1 l_self)) (.c (.me c_Sender n_118 fm_Sender_unsent ty_560 kp_560 (s_Sender_unsent e) (.lo n_1 l_self) .nil) (.c (.prop c_Sender n_101 (pw_fo e) (pw_rec e) (by exact fun _ _ => rfl) (s_Sender_window e) (by decide) (.lo n_1 l_self)) .nil)))) (.c (.prop c_Sender n_101 (pw_fo e) (pw_rec e) (by exact fun _ _ => rfl) (s_Sender_window e) (by decide) (.lo n_1 l_self)) .nil))))) .nil) (.cons (.as (.attr c_Sender n_26 tk_Sender_greatest (.lo n_1 l_self)) (.cf g_latest y_latest kp_124 (s_latest e) (.c (.at c_Sender n_26 fa_Sender_greatest (.lo n_1 l_self)) (.c (.cf g_plus y_plus kp_96 (s_plus e) (.c (.at c_Sender n_25 fa_Sender_next (.lo n_1 l_self)) (.c .int (.c (.at c_Sender n_7 fa_Sender_ring (.lo n_1 l_self)) .nil)))) (.c (.at c_Sender n_7 fa_Sender_ring (.lo n_1 l_self)) .nil))))) (.cons (.ite (.rel op_eq rfl (.me c_Sender n_118 fm_Sender_unsent ty_560 kp_560 (s_Sender_unsent e) (.lo n_1 l_self) .nil) .int) (.cons (.as (.attr c_Sender n_36 tk_Sender_fin_sent (.lo n_1 l_self)) .tt) (.one (.ret (.tup (.c (.at c_Sender n_25 fa_Sender_next (.lo n_1 l_self)) (.c (.bytes (by kernel_rfl) (by decide)) (.c .ff (.c .tt .nil)))))))) .nil) (.one (.ret (.tup (.c (.at c_Sender n_25 fa_Sender_next (.lo n_1 l_self)) (.c (.me c_SendQueue n_123 fm_SendQueue_part ty_440 kp_440 (s_SendQueue_part e) (.at c_Sender n_33 fa_Sender_queue (.lo n_1 l_self)) (.c (.me c_Sender n_117 fm_Sender_data_sent ty_553 kp_553 (s_Sender_data_sent e) (.lo n_1 l_self) .nil) (.c .int .nil))) (.c (.val (.rel op_eq rfl (.me c_Sender n_118 fm_Sender_unsent ty_560 kp_560 (s_Sender_unsent e) (.lo n_1 l_self) .nil) .int)) (.c .ff .nil)))))))))))
theorem s_probed (e : Ev) : FnSim (XX e) 10 f_probed 1050 2 := by
  have l_found : Lo D1050 "found" := by kernel_rfl
  have l_has_fin : Lo D1050 "has_fin" := by kernel_rfl
  have l_has_push : Lo D1050 "has_push" := by kernel_rfl
  have l_now : Lo D1050 "now" := by kernel_rfl
  have l_octets : Lo D1050 "octets" := by kernel_rfl
  have l_piece : Lo D1050 "piece" := by kernel_rfl
  have l_seq : Lo D1050 "seq" := by kernel_rfl
  have l_tcb : Lo D1050 "tcb" := by kernel_rfl
  have y_closed : Gl D1050 "closed" := by kernel_rfl
  have y_flags_of : Gl D1050 "flags_of" := by kernel_rfl
  have y_keep_timers : Gl D1050 "keep_timers" := by kernel_rfl
  have y_output : Gl D1050 "output" := by kernel_rfl
  exact FnSim.m0 e 9 2 D1050 rfl (fun _ _ _ => .of_eq (by kernel_rfl)) (.cons (.an n_167 l_piece (.me c_Sender n_166 fm_Sender_probe ty_666 kp_666 (s_Sender_probe e) (.at c_Tcb n_37 fa_Tcb_sender (.lo n_75 l_tcb)) .nil)) (.cons (.ite (.isNone (.lo n_167 l_piece)) (.one (.ret (.cf g_output y_output kp_1008 (s_output e) (.c (.lo n_75 l_tcb) (.c (.lo n_78 l_now) .nil))))) .nil) (.cons (.as (.tup (by exact fun _ => rfl) (.cons (.name n_103 l_seq.l) (.cons (.name n_124 l_octets.l) (.cons (.name n_130 l_has_push.l) (.cons (.name n_98 l_has_fin.l) .nil))))) (.lo n_167 l_piece)) (.cons (.as (.attr c_Tcb n_73 tk_Tcb_unanswered (.lo n_75 l_tcb)) (.bin op_add (.at c_Tcb n_73 fa_Tcb_unanswered (.lo n_75 l_tcb)) .int)) (.cons (.ite (.rel op_gt rfl (.at c_Tcb n_73 fa_Tcb_unanswered (.lo n_75 l_tcb)) (.at c_Limits n_15 fa_Limits_most_tries (.at c_Tcb n_18 fa_Tcb_limits (.lo n_75 l_tcb)))) (.cons (.ex (.cf g_closed y_closed kp_924 (s_closed e) (.c (.lo n_75 l_tcb) (.c (.str t_24) .nil)))) (.one (.ret (.list .nil)))) .nil) (.cons (.as (.attr c_Tcb n_72 tk_Tcb_probes (.lo n_75 l_tcb)) (.bin op_add (.at c_Tcb n_72 fa_Tcb_probes (.lo n_75 l_tcb)) .int)) (.cons (.an n_77 l_found (.list (.c (.me c_Tcb n_112 fm_Tcb_make ty_903 kp_903 (s_Tcb_make_4 e) (.lo n_75 l_tcb) (.c (.cf g_flags_of y_flags_of kp_987 (s_flags_of e) (.c (.lo n_130 l_has_push) (.c (.lo n_98 l_has_fin) .nil))) (.c (.lo n_103 l_seq) (.c (.lo n_124 l_octets) .nil)))) .nil))) (.cons (.ex (.cf g_keep_timers y_keep_timers kp_1015 (s_keep_timers e) (.c (.lo n_75 l_tcb) (.c (.lo n_78 l_now) .nil)))) (.one (.ret (.lo n_77 l_found)))))))))))
theorem s_AckPolicy_due_time (e : Ev) : FnSim (XX e) 2 f_AckPolicy_due_time 174 1 := by
  have l_self : Lo D174 "self" := by kernel_rfl
  exact FnSim.m0 e 1 1 D174 rfl (fun _ _ => .of_eq (by kernel_rfl)) (.one (.ret (.at c_AckPolicy n_60 fa_AckPolicy_due (.lo n_1 l_self))))
theorem s_ack_segment (e : Ev) : FnSim (XX e) 8 f_ack_segment 973 1 := by
  have l_tcb : Lo D973 "tcb" := by kernel_rfl
  have y_ACK : Gl D973 "ACK" := by kernel_rfl
  exact FnSim.m0 e 7 1 D973 rfl (fun _ _ => .of_eq (by kernel_rfl)) (.one (.ret (.me c_Tcb n_112 fm_Tcb_make ty_903 kp_903 (s_Tcb_make_3 e) (.lo n_75 l_tcb) (.c (.gl g_ACK (fun _ => ⟨_, rfl⟩) y_ACK) (.c (.at c_Sender n_25 fa_Sender_next (.at c_Tcb n_37 fa_Tcb_sender (.lo n_75 l_tcb))) .nil)))))
theorem s_on_time (e : Ev) : FnSim (XX e) 11 f_on_time 1029 2 := by
  have l_found : Lo D1029 "found" := by kernel_rfl
  have l_key : Lo D1029 "key" := by kernel_rfl
  have l_now : Lo D1029 "now" := by kernel_rfl
  have l_tcb : Lo D1029 "tcb" := by kernel_rfl
  have y_CLOSED : Gl D1029 "CLOSED" := by kernel_rfl
  have y_DELAYED : Gl D1029 "DELAYED" := by kernel_rfl
  have y_PERSIST : Gl D1029 "PERSIST" := by kernel_rfl
  have y_RESEND : Gl D1029 "RESEND" := by kernel_rfl
  have y_TIME_WAIT : Gl D1029 "TIME_WAIT" := by kernel_rfl
  have y_ack_segment : Gl D1029 "ack_segment" := by kernel_rfl
  have y_closed : Gl D1029 "closed" := by kernel_rfl
  have y_probed : Gl D1029 "probed" := by kernel_rfl
  have y_sent_again : Gl D1029 "sent_again" := by kernel_rfl
  exact FnSim.m0 e 10 2 D1029 rfl (fun _ _ _ => .of_eq (by kernel_rfl)) (.cons (.an n_77 l_found (.list .nil)) (.cons (.for_ (by exact fun _ _ => rfl) (by exact fun _ _ => rfl) (.name n_83 l_key.l) (.me c_Wheel n_60 fm_Wheel_due ty_832 kp_832 (s_Wheel_due e) (.at c_Tcb n_70 fa_Tcb_wheel (.lo n_75 l_tcb)) (.c (.lo n_78 l_now) .nil)) (.cons (.ite (.rel op_eq rfl (.at c_Tcb n_22 fa_Tcb_state (.lo n_75 l_tcb)) (.gl g_CLOSED (fun _ => ⟨_, by rw [t_1]⟩) y_CLOSED)) (.one (.ret (.lo n_77 l_found))) .nil) (.one (.ite (.rel op_eq rfl (.lo n_83 l_key) (.gl g_RESEND (fun _ => ⟨_, rfl⟩) y_RESEND)) (.one (.ex (.bmeth (T := 1) PySem.F.plainAttrs_list PySem.F.slot_list_extend PySem.F.type_list_extend (by exact fun _ => rfl) (by exact fun _ => rfl) b_extend (.lo n_77 l_found) (.cf g_sent_again y_sent_again kp_1036 (s_sent_again e) (.c (.lo n_75 l_tcb) (.c (.lo n_78 l_now) .nil)))))) (.one (.ite (.rel op_eq rfl (.lo n_83 l_key) (.gl g_PERSIST (fun _ => ⟨_, rfl⟩) y_PERSIST)) (.one (.ex (.bmeth (T := 1) PySem.F.plainAttrs_list PySem.F.slot_list_extend PySem.F.type_list_extend (by exact fun _ => rfl) (by exact fun _ => rfl) b_extend (.lo n_77 l_found) (.cf g_probed y_probed kp_1050 (s_probed e) (.c (.lo n_75 l_tcb) (.c (.lo n_78 l_now) .nil)))))) (.one (.ite (.rel op_eq rfl (.lo n_83 l_key) (.gl g_DELAYED (fun _ => ⟨_, rfl⟩) y_DELAYED)) (.one (.ite (.isNotNone (.me c_AckPolicy n_168 fm_AckPolicy_due_time ty_174 kp_174 (s_AckPolicy_due_time e) (.at c_Tcb n_62 fa_Tcb_acks (.lo n_75 l_tcb)) .nil)) (.one (.ex (.bmeth (T := 1) PySem.F.plainAttrs_list PySem.F.slot_list_append PySem.F.type_list_append (by exact fun _ => rfl) (by exact fun _ => rfl) b_append (.lo n_77 l_found) (.cf g_ack_segment y_ack_segment kp_973 (s_ack_segment e) (.c (.lo n_75 l_tcb) .nil))))) .nil)) (.one (.ite (.rel op_eq rfl (.at c_Tcb n_22 fa_Tcb_state (.lo n_75 l_tcb)) (.gl g_TIME_WAIT (fun _ => ⟨_, by rw [t_17]⟩) y_TIME_WAIT)) (.one (.ex (.cf g_closed y_closed kp_924 (s_closed e) (.c (.lo n_75 l_tcb) (.c SimE.none' .nil))))) .nil)))))))))) (.one (.ret (.lo n_77 l_found)))))
theorem s__law_times (e : Ev) : FnSim (XX e) 3 f__law_times 1313 1 :=
  FnSim.times (n := 2) (C := 63) (D := 19) (mi := 132) (wi := 70) (i0 := 75) (j := 83) (fa := 820) (o := (fob D1313)) (fd := D1313) (by kernel_rfl) rfl rfl (by kernel_rfl) (by kernel_rfl) (by kernel_rfl) (by kernel_rfl) (by kernel_rfl) (by kernel_rfl) rfl rfl
    n_75 n_83 (by kernel_rfl) (fun v => by kernel_rfl) (by kernel_rfl) (by decide +kernel) (by decide +kernel) (by kernel_rfl) (fun L => by kernel_rfl) (fun L => by kernel_rfl) (by kernel_rfl) (by kernel_rfl) (by exact fun _ _ => rfl)
    c_Wheel c_Tcb n_70 fa_Tcb_wheel (by exact fun _ _ => rfl) n_132 fm_Wheel_time_of ty_820 kp_820 (by exact fun _ => rfl) (fun _ _ _ _ _ _ => rfl) (.list (.c .int (.c .int (.c .int (.c .int .nil))))) (s_Wheel_time_of e)
theorem s__law_tries_right (e : Ev) : FnSim (XX e) 12 f__law_tries_right 1337 4 := by
  have l_again : Lo D1337 "again" := by kernel_rfl
  have l_due : Lo D1337 "due" := by kernel_rfl
  have l_flight : Lo D1337 "flight" := by kernel_rfl
  have l_found : Lo D1337 "found" := by kernel_rfl
  have l_is_closing : Lo D1337 "is_closing" := by kernel_rfl
  have l_key : Lo D1337 "key" := by kernel_rfl
  have l_late : Lo D1337 "late" := by kernel_rfl
  have l_many : Lo D1337 "many" := by kernel_rfl
  have l_tcb : Lo D1337 "tcb" := by kernel_rfl
  have l_tries : Lo D1337 "tries" := by kernel_rfl
  have l_turn : Lo D1337 "turn" := by kernel_rfl
  have y_Limits : Gl D1337 "Limits" := by kernel_rfl
  have y__law_open : Gl D1337 "_law_open" := by kernel_rfl
  have y__law_times : Gl D1337 "_law_times" := by kernel_rfl
  have y_bytes : Gl D1337 "bytes" := by kernel_rfl
  have y_close : Gl D1337 "close" := by kernel_rfl
  have y_int : Gl D1337 "int" := by kernel_rfl
  have y_max : Gl D1337 "max" := by kernel_rfl
  have y_min : Gl D1337 "min" := by kernel_rfl
  have y_on_time : Gl D1337 "on_time" := by kernel_rfl
  have y_range : Gl D1337 "range" := by kernel_rfl
  have y_send : Gl D1337 "send" := by kernel_rfl
  exact FnSim.m0 e 11 4 D1337 rfl (fun _ _ _ _ _ => .of_eq (by kernel_rfl)) (.cons (.asgR (ns := [(75, .ofString "tcb"), (60, .ofString "due")]) (by intro p hp; simp only [List.mem_cons, List.not_mem_nil, or_false] at hp; rcases hp with rfl | rfl <;> first | exact ⟨n_75, l_tcb.l⟩ | exact ⟨n_60, l_due.l⟩) (fun _ => by kernel_rfl) (swaps_ok2 l_tcb.l l_due.l (by kernel_rfl) rfl rfl (by kernel_rfl) (by kernel_rfl) (by kernel_rfl)) (.tup (.c (.cf g__law_open y__law_open kp_1332 (s__law_open e) (.c (.cc g_Limits y_Limits kc_Limits mk_Limits fm_Limits___init__ ty_860 (s_Limits___init__ e) (.c .int (.c .int (.c .int (.c .int (.c .int (.c .int (.c .int (.c (.lo n_6 l_tries) (.c .int (.c .int .nil))))))))))) .nil)) (.c (.bin op_add .int .int) .nil)))) (.cons (.ex (.cf g_send y_send kp_952 (s_send e) (.c (.lo n_75 l_tcb) (.c (.cb gn_bytes gb_bytes y_bytes b_bytes_ok (.c (.cb gn_range gb_range y_range b_range_ok (.c .int (.c (.bin op_add .int (.lo n_109 l_many)) .nil))) .nil)) (.c .int .nil))))) (.cons (.ite (.truth (.lo n_153 l_is_closing) (by exact fun _ _ => rfl)) (.one (.ex (.cf g_close y_close kp_959 (s_close e) (.c (.lo n_75 l_tcb) (.c .int .nil))))) .nil) (.cons (.an n_116 l_flight (.ifx (.truth (.lo n_153 l_is_closing) (by exact fun _ _ => rfl)) (.bin op_add (.lo n_109 l_many) .int) (.bin op_sub (.lo n_109 l_many) (.bin op_mod (.lo n_109 l_many) .int)))) (.cons (.an n_155 l_again (.bin op_add .int (.cb gn_int gb_int y_int b_int_ok (.c (.val (.and (.truth (.lo n_153 l_is_closing)) (.and1 (.rel op_eq rfl (.lo n_109 l_many) .int)))) .nil)))) (.cons (.for_ (by exact fun _ _ => rfl) (by exact fun _ _ => rfl) (.name n_138 l_turn.l) (.cb gn_range gb_range y_range b_range_ok (.c (.lo n_6 l_tries) .nil)) (.cons (.as (.attr c_Congestion n_52 tk_Congestion_gathered (.at c_Tcb n_56 fa_Tcb_congestion (.lo n_75 l_tcb))) .int) (.cons (.ite (.or (.relN op_ne rfl (.me c_Sender n_116 fm_Sender_flight ty_539 kp_539 (s_Sender_flight e) (.at c_Tcb n_37 fa_Tcb_sender (.lo n_75 l_tcb)) .nil) (.lo n_116 l_flight)) (.or (.relN op_ne rfl (.me c_Wheel n_132 fm_Wheel_time_of ty_820 kp_820 (s_Wheel_time_of e) (.at c_Tcb n_70 fa_Tcb_wheel (.lo n_75 l_tcb)) (.c .int .nil)) (.lo n_60 l_due)) (.or1 (.relN op_ne rfl (.cf g_on_time y_on_time kp_1029 (s_on_time e) (.c (.lo n_75 l_tcb) (.c (.bin op_sub (.lo n_60 l_due) .int) .nil))) (.list .nil))))) (.one (.ret .ff)) .nil) (.cons (.asgComp n_77 l_found.l (swapsC l_found.l rfl (by kernel_rfl)) (by exact fun _ _ => rfl) (by decide +kernel) (by decide +kernel) rfl (by decide +kernel) (by exact fun _ _ => rfl) (.name n_169 (by kernel_rfl)) (.tup (.c (.at c_Segment n_103 fa_Segment_seq (.lo n_169 (by kernel_rfl))) (.c (.at c_Segment n_104 fa_Segment_payload (.lo n_169 (by kernel_rfl))) (.c (.at c_Segment n_80 fa_Segment_flags (.lo n_169 (by kernel_rfl))) .nil)))) (.cf g_on_time y_on_time kp_1029 (s_on_time e) (.c (.lo n_75 l_tcb) (.c (.bin op_add (.lo n_60 l_due) (.lo n_66 l_late)) .nil)))) (.cons (.ite (.relN op_ne rfl (.lo n_77 l_found) (.list (.c (.tup (.c .int (.c (.cb gn_bytes gb_bytes y_bytes b_bytes_ok (.c (.cb gn_range gb_range y_range b_range_ok (.c .int (.c .int .nil))) .nil)) (.c (.bin op_sub (.bin op_add .int (.lo n_155 l_again)) .int) .nil)))) .nil))) (.one (.ret .ff)) .nil) (.cons (.ite (.relN op_ne rfl (.list (.c (.at c_Congestion n_52 fa_Congestion_gathered (.at c_Tcb n_56 fa_Tcb_congestion (.lo n_75 l_tcb))) (.c (.at c_Congestion n_51 fa_Congestion_threshold (.at c_Tcb n_56 fa_Tcb_congestion (.lo n_75 l_tcb))) (.c (.at c_Congestion n_5 fa_Congestion_size (.at c_Tcb n_56 fa_Tcb_congestion (.lo n_75 l_tcb))) .nil)))) (.list (.c .int (.c (.cb gn_max gb_max y_max b_max_ok (.c .int (.c (.bin op_fdv (.lo n_116 l_flight) .int) .nil))) (.c .int .nil))))) (.one (.ret .ff)) .nil) (.one (.asgR (ns := [(116, .ofString "flight"), (60, .ofString "due")]) (by intro p hp; simp only [List.mem_cons, List.not_mem_nil, or_false] at hp; rcases hp with rfl | rfl <;> first | exact ⟨n_116, l_flight.l⟩ | exact ⟨n_60, l_due.l⟩) (fun _ => by kernel_rfl) (swaps_ok2 l_flight.l l_due.l (by kernel_rfl) rfl rfl (by kernel_rfl) (by kernel_rfl) (by kernel_rfl)) (.tup (.c (.lo n_155 l_again) (.c (.bin op_add (.bin op_add (.lo n_60 l_due) (.lo n_66 l_late)) (.cb gn_min gb_min y_min b_min_ok (.c (.bin op_mul .int (.bin op_pow .int (.bin op_add (.lo n_138 l_turn) .int))) (.c .int .nil)))) .nil))))))))))) (.cons (.for_ (by exact fun _ _ => rfl) (by exact fun _ _ => rfl) (.name n_83 l_key.l) (.list (.c .int (.c .int (.c .int .nil)))) (.one (.ex (.me c_Wheel n_141 fm_Wheel_put ty_799 kp_799 (s_Wheel_put e) (.at c_Tcb n_70 fa_Tcb_wheel (.lo n_75 l_tcb)) (.c (.lo n_83 l_key) (.c .int .nil)))))) (.cons (.ite (.or (.relN op_ne rfl (.me c_Wheel n_132 fm_Wheel_time_of ty_820 kp_820 (s_Wheel_time_of e) (.at c_Tcb n_70 fa_Tcb_wheel (.lo n_75 l_tcb)) (.c .int .nil)) (.lo n_60 l_due)) (.or (.relN op_ne rfl (.cf g_on_time y_on_time kp_1029 (s_on_time e) (.c (.lo n_75 l_tcb) (.c (.bin op_sub (.lo n_60 l_due) .int) .nil))) (.list .nil)) (.or1 (.relN op_ne rfl (.cf g_on_time y_on_time kp_1029 (s_on_time e) (.c (.lo n_75 l_tcb) (.c (.lo n_60 l_due) .nil))) (.list .nil))))) (.one (.ret .ff)) .nil) (.one (.ret (.val (.and (.rel op_eq rfl (.list (.c (.at c_Tcb n_22 fa_Tcb_state (.lo n_75 l_tcb)) (.c (.at c_Tcb n_71 fa_Tcb_error (.lo n_75 l_tcb)) .nil))) (.list (.c (.str t_1) (.c (.str t_24) .nil)))) (.and1 (.rel op_eq rfl (.cf g__law_times y__law_times kp_1313 (s__law_times e) (.c (.lo n_75 l_tcb) .nil)) (.bin op_mul (.list (.c SimE.none' .nil)) .int)))))))))))))))
theorem s_Assembly___init__ (e : Ev) : FnSim (XX e) 2 f_Assembly___init__ 1064 2 := by
  have l_ring : Lo D1064 "ring" := by kernel_rfl
  have l_self : Lo D1064 "self" := by kernel_rfl
  exact FnSim.m0 e 1 2 D1064 rfl (fun _ _ _ => .of_eq (by kernel_rfl)) (.cons (.as (.attr c_Assembly n_7 tk_Assembly_ring (.lo n_1 l_self)) (.lo n_7 l_ring)) (.one (.as (.attr c_Assembly n_172 tk_Assembly_parts (.lo n_1 l_self)) (.list .nil))))
theorem s_Receiver___init__ (e : Ev) : FnSimX (XX e) 4 f_Receiver___init__ 1161 5 := by
  have l_irs : Lo D1161 "irs" := by kernel_rfl
  have l_mss : Lo D1161 "mss" := by kernel_rfl
  have l_ring : Lo D1161 "ring" := by kernel_rfl
  have l_room : Lo D1161 "room" := by kernel_rfl
  have l_self : Lo D1161 "self" := by kernel_rfl
  have y_Assembly : Gl D1161 "Assembly" := by kernel_rfl
  have y_bytearray : Gl D1161 "bytearray" := by kernel_rfl
  have y_plus : Gl D1161 "plus" := by kernel_rfl
  exact FnSimX.mk (n := 3) (N := 5) (o := (fob D1161)) (fd := D1161) (dv := [.int 1 1828]) (by kernel_rfl) rfl rfl (by kernel_rfl) (by kernel_rfl) (by kernel_rfl) (by kernel_rfl) (by decide +kernel) rfl rfl (allN_ok fun _ _ _ _ _ s hF => dflt_ok (X := XX e) (T := 1154) (items := #[.int 1 1828]) (z := 0) rfl (by kernel_rfl) hF rfl (by kernel_rfl)) (by decide) (loc_all (by kernel_rfl)) (fun _ => .cons ⟨_, rfl⟩ .nil) (.cons (SimS.x (.as (.attr c_Receiver n_7 tk_Receiver_ring (.lo n_1 l_self)) (.lo n_7 l_ring))) (.cons (SimS.x (.as (.attr c_Receiver n_30 tk_Receiver_room (.lo n_1 l_self)) (.lo n_30 l_room))) (.cons (SimS.x (.as (.attr c_Receiver n_9 tk_Receiver_mss (.lo n_1 l_self)) (.lo n_9 l_mss))) (.cons (SimS.x (.as (.attr c_Receiver n_25 tk_Receiver_next (.lo n_1 l_self)) (.cf g_plus y_plus kp_96 (s_plus e) (.c (.lo n_170 l_irs) (.c .int (.c (.lo n_7 l_ring) .nil)))))) (.cons (.asg (fun _ => by kernel_rfl) (fun _ => by kernel_rfl) (by exact fun _ => rfl) (.attr c_Receiver n_93 tk_Receiver_ready (.lo n_1 l_self)) (.bytearray gn_bytearray gb_bytearray y_bytearray.l y_bytearray.d)) (.cons (SimS.x (.as (.attr c_Receiver n_173 tk_Receiver_assembly (.lo n_1 l_self)) (.cc g_Assembly y_Assembly kc_Assembly mk_Assembly fm_Assembly___init__ ty_1064 (s_Assembly___init__ e) (.c (.lo n_7 l_ring) .nil)))) (.cons (SimS.x (.as (.attr c_Receiver n_92 tk_Receiver_told_edge (.lo n_1 l_self)) (.cf g_plus y_plus kp_96 (s_plus e) (.c (.at c_Receiver n_25 fa_Receiver_next (.lo n_1 l_self)) (.c (.lo n_30 l_room) (.c (.lo n_7 l_ring) .nil)))))) (.cons (SimS.x (.as (.attr c_Receiver n_174 tk_Receiver_fin_at (.lo n_1 l_self)) SimE.none')) (.cons (SimS.x (.as (.attr c_Receiver n_98 tk_Receiver_has_fin (.lo n_1 l_self)) .ff)) (.one (SimS.x (.as (.attr c_Receiver n_175 tk_Receiver_urgent_at (.lo n_1 l_self)) SimE.none'))))))))))))
theorem s_is_at_most (e : Ev) : FnSim (XX e) 4 f_is_at_most 117 3 := by
  have l_a : Lo D117 "a" := by kernel_rfl
  have l_b : Lo D117 "b" := by kernel_rfl
  have l_ring : Lo D117 "ring" := by kernel_rfl
  have y_is_before : Gl D117 "is_before" := by kernel_rfl
  exact FnSim.m0 e 3 3 D117 rfl (fun _ _ _ _ => .of_eq (by kernel_rfl)) (.one (.ret (.val (.or (.rel op_eq rfl (.lo n_94 l_a) (.lo n_96 l_b)) (.or1 (.truth (.cf g_is_before y_is_before kp_110 (s_is_before e) (.c (.lo n_94 l_a) (.c (.lo n_96 l_b) (.c (.lo n_7 l_ring) .nil))))))))))
theorem s_Receiver_let_in (e : Ev) : FnSim (XX e) 4 f_Receiver_let_in 1203 3 := by
  have l_most : Lo D1203 "most" := by kernel_rfl
  have l_octets : Lo D1203 "octets" := by kernel_rfl
  have l_self : Lo D1203 "self" := by kernel_rfl
  have l_seq : Lo D1203 "seq" := by kernel_rfl
  have y_bytes : Gl D1203 "bytes" := by kernel_rfl
  have y_distance : Gl D1203 "distance" := by kernel_rfl
  have y_is_before : Gl D1203 "is_before" := by kernel_rfl
  exact FnSim.m0 e 3 3 D1203 rfl (fun _ _ _ _ => .of_eq (by kernel_rfl)) (.cons (.ite (.not (.truth (.cf g_is_before y_is_before kp_110 (s_is_before e) (.c (.lo n_103 l_seq) (.c (.at c_Receiver n_92 fa_Receiver_told_edge (.lo n_1 l_self)) (.c (.at c_Receiver n_7 fa_Receiver_ring (.lo n_1 l_self)) .nil)))) (by exact fun _ _ => rfl))) (.one (.ret (.ifx (.relN op_ne rfl (.lo n_124 l_octets) (.bytes (by kernel_rfl) (by decide))) (.bytes (by kernel_rfl) (by decide)) (.lo n_124 l_octets)))) .nil) (.cons (.an n_27 l_most (.cf g_distance y_distance kp_103 (s_distance e) (.c (.lo n_103 l_seq) (.c (.at c_Receiver n_92 fa_Receiver_told_edge (.lo n_1 l_self)) (.c (.at c_Receiver n_7 fa_Receiver_ring (.lo n_1 l_self)) .nil))))) (.one (.ret (.cb gn_bytes gb_bytes y_bytes b_bytes_ok (.c (.slc (fun _ _ _ => rfl) (.lo n_124 l_octets) SimP.none (.some (.lo n_27 l_most))) .nil))))))
theorem s_Assembly_offset (e : Ev) : FnSim (XX e) 4 f_Assembly_offset 1083 3 := by
  have l_next : Lo D1083 "next" := by kernel_rfl
  have l_self : Lo D1083 "self" := by kernel_rfl
  have l_seq : Lo D1083 "seq" := by kernel_rfl
  have y_distance : Gl D1083 "distance" := by kernel_rfl
  have y_is_before : Gl D1083 "is_before" := by kernel_rfl
  exact FnSim.m0 e 3 3 D1083 rfl (fun _ _ _ _ => .of_eq (by kernel_rfl)) (.cons (.ite (.truth (.cf g_is_before y_is_before kp_110 (s_is_before e) (.c (.lo n_103 l_seq) (.c (.lo n_25 l_next) (.c (.at c_Assembly n_7 fa_Assembly_ring (.lo n_1 l_self)) .nil)))) (by exact fun _ _ => rfl)) (.one (.ret (.bin op_sub .int (.cf g_distance y_distance kp_103 (s_distance e) (.c (.lo n_103 l_seq) (.c (.lo n_25 l_next) (.c (.at c_Assembly n_7 fa_Assembly_ring (.lo n_1 l_self)) .nil))))))) .nil) (.one (.ret (.cf g_distance y_distance kp_103 (s_distance e) (.c (.lo n_25 l_next) (.c (.lo n_103 l_seq) (.c (.at c_Assembly n_7 fa_Assembly_ring (.lo n_1 l_self)) .nil)))))))
theorem s_Assembly_cut_behind (e : Ev) : FnSim (XX e) 5 f_Assembly_cut_behind 1139 3 := by
  have l_edge : Lo D1139 "edge" := by kernel_rfl
  have l_found : Lo D1139 "found" := by kernel_rfl
  have l_left : Lo D1139 "left" := by kernel_rfl
  have l_most : Lo D1139 "most" := by kernel_rfl
  have l_next : Lo D1139 "next" := by kernel_rfl
  have l_octets : Lo D1139 "octets" := by kernel_rfl
  have l_self : Lo D1139 "self" := by kernel_rfl
  have l_seq : Lo D1139 "seq" := by kernel_rfl
  have y_max : Gl D1139 "max" := by kernel_rfl
  exact FnSim.m0 e 4 3 D1139 rfl (fun _ _ _ _ => .of_eq (by kernel_rfl)) (.cons (.an n_27 l_most (.me c_Assembly n_180 fm_Assembly_offset ty_1083 kp_1083 (s_Assembly_offset e) (.lo n_1 l_self) (.c (.lo n_179 l_edge) (.c (.lo n_25 l_next) .nil)))) (.cons (.an n_77 l_found (.list .nil)) (.cons (.forL (by exact fun _ _ => rfl) (.tup (by exact fun _ => rfl) (.cons (.name n_103 l_seq.l) (.cons (.name n_124 l_octets.l) .nil))) (.at c_Assembly n_172 fa_Assembly_parts (.lo n_1 l_self)) (.cons (.an n_181 l_left (.slc (fun _ _ _ => rfl) (.lo n_124 l_octets) SimP.none (.some (.cb gn_max gb_max y_max b_max_ok (.c .int (.c (.bin op_sub (.lo n_27 l_most) (.me c_Assembly n_180 fm_Assembly_offset ty_1083 kp_1083 (s_Assembly_offset e) (.lo n_1 l_self) (.c (.lo n_103 l_seq) (.c (.lo n_25 l_next) .nil)))) .nil)))))) (.one (.ite (.relN op_ne rfl (.lo n_181 l_left) (.bytes (by kernel_rfl) (by decide))) (.one (.ex (.bmeth (T := 1) PySem.F.plainAttrs_list PySem.F.slot_list_append PySem.F.type_list_append (by exact fun _ => rfl) (by exact fun _ => rfl) b_append (.lo n_77 l_found) (.tup (.c (.lo n_103 l_seq) (.c (.lo n_181 l_left) .nil)))))) .nil)))) (.one (.as (.attr c_Assembly n_172 tk_Assembly_parts (.lo n_1 l_self)) (.lo n_77 l_found))))))
theorem s_Receiver_note_fin (e : Ev) : FnSim (XX e) 6 f_Receiver_note_fin 1210 2 := by
  have l_place : Lo D1210 "place" := by kernel_rfl
  have l_self : Lo D1210 "self" := by kernel_rfl
  have y_is_before : Gl D1210 "is_before" := by kernel_rfl
  exact FnSim.m0 e 5 2 D1210 rfl (fun _ _ _ => .of_eq (by kernel_rfl)) (.one (.ite (.and (.isNone (.at c_Receiver n_174 fa_Receiver_fin_at (.lo n_1 l_self))) (.and1 (.not (.truth (.cf g_is_before y_is_before kp_110 (s_is_before e) (.c (.lo n_64 l_place) (.c (.at c_Receiver n_25 fa_Receiver_next (.lo n_1 l_self)) (.c (.at c_Receiver n_7 fa_Receiver_ring (.lo n_1 l_self)) .nil)))) (by exact fun _ _ => rfl))))) (.cons (.as (.attr c_Receiver n_174 tk_Receiver_fin_at (.lo n_1 l_self)) (.lo n_64 l_place)) (.one (.ex (.me c_Assembly n_182 fm_Assembly_cut_behind ty_1139 kp_1139 (s_Assembly_cut_behind e) (.at c_Receiver n_173 fa_Receiver_assembly (.lo n_1 l_self)) (.c (.lo n_64 l_place) (.c (.at c_Receiver n_25 fa_Receiver_next (.lo n_1 l_self)) .nil)))))) .nil))
theorem s_Receiver_ahead_of_fin (e : Ev) : FnSim (XX e) 4 f_Receiver_ahead_of_fin 1217 3 := by
  have l_octets : Lo D1217 "octets" := by kernel_rfl
  have l_self : Lo D1217 "self" := by kernel_rfl
  have l_seq : Lo D1217 "seq" := by kernel_rfl
  have y_distance : Gl D1217 "distance" := by kernel_rfl
  have y_is_before : Gl D1217 "is_before" := by kernel_rfl
  exact FnSim.m0 e 3 3 D1217 rfl (fun _ _ _ _ => .of_eq (by kernel_rfl)) (.cons (.ite (.not (.truth (.cf g_is_before y_is_before kp_110 (s_is_before e) (.c (.lo n_103 l_seq) (.c (.at c_Receiver n_174 fa_Receiver_fin_at (.lo n_1 l_self)) (.c (.at c_Receiver n_7 fa_Receiver_ring (.lo n_1 l_self)) .nil)))) (by exact fun _ _ => rfl))) (.one (.ret (.bytes (by kernel_rfl) (by decide)))) .nil) (.one (.ret (.slc (fun _ _ _ => rfl) (.lo n_124 l_octets) SimP.none (.some (.cf g_distance y_distance kp_103 (s_distance e) (.c (.lo n_103 l_seq) (.c (.at c_Receiver n_174 fa_Receiver_fin_at (.lo n_1 l_self)) (.c (.at c_Receiver n_7 fa_Receiver_ring (.lo n_1 l_self)) .nil)))))))))
theorem s_Assembly_forget (e : Ev) : FnSim (XX e) 5 f_Assembly_forget 1118 2 := by
  have l_begin : Lo D1118 "begin" := by kernel_rfl
  have l_next : Lo D1118 "next" := by kernel_rfl
  have l_octets : Lo D1118 "octets" := by kernel_rfl
  have l_self : Lo D1118 "self" := by kernel_rfl
  have l_seq : Lo D1118 "seq" := by kernel_rfl
  have y_len : Gl D1118 "len" := by kernel_rfl
  exact FnSim.m0 e 4 2 D1118 rfl (fun _ _ _ => .of_eq (by kernel_rfl)) (.one (.whl (.relN op_ne rfl (.at c_Assembly n_172 fa_Assembly_parts (.lo n_1 l_self)) (.list .nil)) (.cons (.as (.tup (by exact fun _ => rfl) (.cons (.name n_103 l_seq.l) (.cons (.name n_124 l_octets.l) .nil))) (.sub (fun _ _ => by kernel_rfl) (.at c_Assembly n_172 fa_Assembly_parts (.lo n_1 l_self)) .int)) (.cons (.an n_185 l_begin (.me c_Assembly n_180 fm_Assembly_offset ty_1083 kp_1083 (s_Assembly_offset e) (.lo n_1 l_self) (.c (.lo n_103 l_seq) (.c (.lo n_25 l_next) .nil)))) (.cons (.ite (.rel op_ge rfl (.lo n_185 l_begin) .int) (.one .ret0) .nil) (.cons (.ite (.rel op_gt rfl (.bin op_add (.lo n_185 l_begin) (.cb gn_len gb_len y_len b_len_ok (.c (.lo n_124 l_octets) .nil))) .int) (.cons (.as (.sub (.at c_Assembly n_172 fa_Assembly_parts (.lo n_1 l_self)) .int) (.tup (.c (.lo n_25 l_next) (.c (.slc (fun _ _ _ => rfl) (.lo n_124 l_octets) (.some (.bin op_sub .int (.lo n_185 l_begin))) SimP.none) .nil)))) (.one .ret0)) .nil) (.one (.ex (.bmeth (T := 1) PySem.F.plainAttrs_list PySem.F.slot_list_pop PySem.F.type_list_pop (by exact fun _ => rfl) (by exact fun _ => rfl) b_pop (.at c_Assembly n_172 fa_Assembly_parts (.lo n_1 l_self)) .int)))))))))
theorem s_Assembly_missing (e : Ev) : FnSim (XX e) 5 f_Assembly_missing 1097 4 := by
  have l_at : Lo D1097 "at" := by kernel_rfl
  have l_begin : Lo D1097 "begin" := by kernel_rfl
  have l_end : Lo D1097 "end" := by kernel_rfl
  have l_first : Lo D1097 "first" := by kernel_rfl
  have l_found : Lo D1097 "found" := by kernel_rfl
  have l_kept : Lo D1097 "kept" := by kernel_rfl
  have l_last : Lo D1097 "last" := by kernel_rfl
  have l_next : Lo D1097 "next" := by kernel_rfl
  have l_octets : Lo D1097 "octets" := by kernel_rfl
  have l_self : Lo D1097 "self" := by kernel_rfl
  have l_seq : Lo D1097 "seq" := by kernel_rfl
  have y_len : Gl D1097 "len" := by kernel_rfl
  exact FnSim.m0 e 4 4 D1097 rfl (fun _ _ _ _ _ => .of_eq (by kernel_rfl)) (.cons (.an n_131 l_end (.bin op_add (.lo n_185 l_begin) (.cb gn_len gb_len y_len b_len_ok (.c (.lo n_124 l_octets) .nil)))) (.cons (.asgR (ns := [(77, .ofString "found"), (122, .ofString "at")]) (by intro p hp; simp only [List.mem_cons, List.not_mem_nil, or_false] at hp; rcases hp with rfl | rfl <;> first | exact ⟨n_77, l_found.l⟩ | exact ⟨n_122, l_at.l⟩) (fun _ => by kernel_rfl) (swaps_ok2 l_found.l l_at.l (by kernel_rfl) rfl rfl (by kernel_rfl) (by kernel_rfl) (by kernel_rfl)) (.tup (.c (.list .nil) (.c (.lo n_185 l_begin) .nil)))) (.cons (.forL (by exact fun _ _ => rfl) (.tup (by exact fun _ => rfl) (.cons (.name n_103 l_seq.l) (.cons (.name n_178 l_kept.l) .nil))) (.at c_Assembly n_172 fa_Assembly_parts (.lo n_1 l_self)) (.cons (.an n_39 l_first (.me c_Assembly n_180 fm_Assembly_offset ty_1083 kp_1083 (s_Assembly_offset e) (.lo n_1 l_self) (.c (.lo n_103 l_seq) (.c (.lo n_25 l_next) .nil)))) (.cons (.an n_186 l_last (.bin op_add (.lo n_39 l_first) (.cb gn_len gb_len y_len b_len_ok (.c (.lo n_178 l_kept) .nil)))) (.cons (.ite (.rel op_le rfl (.lo n_186 l_last) (.lo n_122 l_at)) (.one .cont) .nil) (.cons (.ite (.rel op_ge rfl (.lo n_39 l_first) (.lo n_131 l_end)) (.one .brk) .nil) (.cons (.ite (.rel op_gt rfl (.lo n_39 l_first) (.lo n_122 l_at)) (.one (.ex (.bmeth (T := 1) PySem.F.plainAttrs_list PySem.F.slot_list_append PySem.F.type_list_append (by exact fun _ => rfl) (by exact fun _ => rfl) b_append (.lo n_77 l_found) (.tup (.c (.lo n_122 l_at) (.c (.slc (fun _ _ _ => rfl) (.lo n_124 l_octets) (.some (.bin op_sub (.lo n_122 l_at) (.lo n_185 l_begin))) (.some (.bin op_sub (.lo n_39 l_first) (.lo n_185 l_begin)))) .nil)))))) .nil) (.one (.an n_122 l_at (.lo n_186 l_last))))))))) (.cons (.ite (.rel op_lt rfl (.lo n_122 l_at) (.lo n_131 l_end)) (.one (.ex (.bmeth (T := 1) PySem.F.plainAttrs_list PySem.F.slot_list_append PySem.F.type_list_append (by exact fun _ => rfl) (by exact fun _ => rfl) b_append (.lo n_77 l_found) (.tup (.c (.lo n_122 l_at) (.c (.slc (fun _ _ _ => rfl) (.lo n_124 l_octets) (.some (.bin op_sub (.lo n_122 l_at) (.lo n_185 l_begin))) SimP.none) .nil)))))) .nil) (.one (.ret (.lo n_77 l_found)))))))
theorem s_Assembly_joined (e : Ev) : FnSim (XX e) 3 f_Assembly_joined 1111 3 := by
  have l_ahead : Lo D1111 "ahead" := by kernel_rfl
  have l_end : Lo D1111 "end" := by kernel_rfl
  have l_first : Lo D1111 "first" := by kernel_rfl
  have l_found : Lo D1111 "found" := by kernel_rfl
  have l_next : Lo D1111 "next" := by kernel_rfl
  have l_octets : Lo D1111 "octets" := by kernel_rfl
  have l_pieces : Lo D1111 "pieces" := by kernel_rfl
  have l_self : Lo D1111 "self" := by kernel_rfl
  have l_seq : Lo D1111 "seq" := by kernel_rfl
  have y_len : Gl D1111 "len" := by kernel_rfl
  have y_plus : Gl D1111 "plus" := by kernel_rfl
  exact FnSim.m0 e 2 3 D1111 rfl (fun _ _ _ _ => .of_eq (by kernel_rfl)) (.cons (.asgR (ns := [(77, .ofString "found"), (131, .ofString "end")]) (by intro p hp; simp only [List.mem_cons, List.not_mem_nil, or_false] at hp; rcases hp with rfl | rfl <;> first | exact ⟨n_77, l_found.l⟩ | exact ⟨n_131, l_end.l⟩) (fun _ => by kernel_rfl) (swaps_ok2 l_found.l l_end.l (by kernel_rfl) rfl rfl (by kernel_rfl) (by kernel_rfl) (by kernel_rfl)) (.tup (.c (.list .nil) (.c SimE.none' .nil)))) (.cons (.forL (by exact fun _ _ => rfl) (.tup (by exact fun _ => rfl) (.cons (.name n_39 l_first.l) (.cons (.name n_124 l_octets.l) .nil))) (.lo n_129 l_pieces) (.cons (.ite (.rel op_eq rfl (.lo n_131 l_end) (.lo n_39 l_first)) (.cons (.as (.tup (by exact fun _ => rfl) (.cons (.name n_103 l_seq.l) (.cons (.name n_115 l_ahead.l) .nil))) (.sub (fun _ _ => by kernel_rfl) (.lo n_77 l_found) (.neg .int))) (.one (.as (.sub (.lo n_77 l_found) (.neg .int)) (.tup (.c (.lo n_103 l_seq) (.c (.bin op_add (.lo n_115 l_ahead) (.lo n_124 l_octets)) .nil)))))) (.one (.ex (.bmeth (T := 1) PySem.F.plainAttrs_list PySem.F.slot_list_append PySem.F.type_list_append (by exact fun _ => rfl) (by exact fun _ => rfl) b_append (.lo n_77 l_found) (.tup (.c (.cf g_plus y_plus kp_96 (s_plus e) (.c (.lo n_25 l_next) (.c (.lo n_39 l_first) (.c (.at c_Assembly n_7 fa_Assembly_ring (.lo n_1 l_self)) .nil)))) (.c (.lo n_124 l_octets) .nil))))))) (.one (.an n_131 l_end (.bin op_add (.lo n_39 l_first) (.cb gn_len gb_len y_len b_len_ok (.c (.lo n_124 l_octets) .nil))))))) (.one (.ret (.lo n_77 l_found)))))
theorem s_Assembly_merged (e : Ev) : FnSim (XX e) 5 f_Assembly_merged 1104 3 := by
  have l_first : Lo D1104 "first" := by kernel_rfl
  have l_found : Lo D1104 "found" := by kernel_rfl
  have l_fresh : Lo D1104 "fresh" := by kernel_rfl
  have l_kept : Lo D1104 "kept" := by kernel_rfl
  have l_next : Lo D1104 "next" := by kernel_rfl
  have l_rest : Lo D1104 "rest" := by kernel_rfl
  have l_self : Lo D1104 "self" := by kernel_rfl
  have l_seq : Lo D1104 "seq" := by kernel_rfl
  have y_list : Gl D1104 "list" := by kernel_rfl
  exact FnSim.m0 e 4 3 D1104 rfl (fun _ _ _ _ => .of_eq (by kernel_rfl)) (.cons (.asgR (ns := [(77, .ofString "found"), (189, .ofString "rest")]) (by intro p hp; simp only [List.mem_cons, List.not_mem_nil, or_false] at hp; rcases hp with rfl | rfl <;> first | exact ⟨n_77, l_found.l⟩ | exact ⟨n_189, l_rest.l⟩) (fun _ => by kernel_rfl) (swaps_ok2 l_found.l l_rest.l (by kernel_rfl) rfl rfl (by kernel_rfl) (by kernel_rfl) (by kernel_rfl)) (.tup (.c (.list .nil) (.c (.cb gn_list gb_list y_list b_list_ok (.c (.lo n_188 l_fresh) .nil)) .nil)))) (.cons (.forL (by exact fun _ _ => rfl) (.tup (by exact fun _ => rfl) (.cons (.name n_103 l_seq.l) (.cons (.name n_178 l_kept.l) .nil))) (.at c_Assembly n_172 fa_Assembly_parts (.lo n_1 l_self)) (.cons (.an n_39 l_first (.me c_Assembly n_180 fm_Assembly_offset ty_1083 kp_1083 (s_Assembly_offset e) (.lo n_1 l_self) (.c (.lo n_103 l_seq) (.c (.lo n_25 l_next) .nil)))) (.cons (.whl (.and (.relN op_ne rfl (.lo n_189 l_rest) (.list .nil)) (.and1 (.rel op_lt rfl (.sub (fun _ _ => by kernel_rfl) (.sub (fun _ _ => by kernel_rfl) (.lo n_189 l_rest) .int) .int) (.lo n_39 l_first)))) (.one (.ex (.bmeth (T := 1) PySem.F.plainAttrs_list PySem.F.slot_list_append PySem.F.type_list_append (by exact fun _ => rfl) (by exact fun _ => rfl) b_append (.lo n_77 l_found) (.bmeth (T := 1) PySem.F.plainAttrs_list PySem.F.slot_list_pop PySem.F.type_list_pop (by exact fun _ => rfl) (by exact fun _ => rfl) b_pop (.lo n_189 l_rest) .int))))) (.one (.ex (.bmeth (T := 1) PySem.F.plainAttrs_list PySem.F.slot_list_append PySem.F.type_list_append (by exact fun _ => rfl) (by exact fun _ => rfl) b_append (.lo n_77 l_found) (.tup (.c (.lo n_39 l_first) (.c (.lo n_178 l_kept) .nil))))))))) (.one (.ret (.bin op_add (.lo n_77 l_found) (.lo n_189 l_rest))))))
theorem s_Assembly_put (e : Ev) : FnSim (XX e) 6 f_Assembly_put 1090 4 := by
  have l_begin : Lo D1090 "begin" := by kernel_rfl
  have l_fresh : Lo D1090 "fresh" := by kernel_rfl
  have l_next : Lo D1090 "next" := by kernel_rfl
  have l_octets : Lo D1090 "octets" := by kernel_rfl
  have l_self : Lo D1090 "self" := by kernel_rfl
  have l_seq : Lo D1090 "seq" := by kernel_rfl
  exact FnSim.m0 e 5 4 D1090 rfl (fun _ _ _ _ _ => .of_eq (by kernel_rfl)) (.cons (.ex (.me c_Assembly n_162 fm_Assembly_forget ty_1118 kp_1118 (s_Assembly_forget e) (.lo n_1 l_self) (.c (.lo n_25 l_next) .nil))) (.cons (.an n_185 l_begin (.me c_Assembly n_180 fm_Assembly_offset ty_1083 kp_1083 (s_Assembly_offset e) (.lo n_1 l_self) (.c (.lo n_103 l_seq) (.c (.lo n_25 l_next) .nil)))) (.cons (.ite (.rel op_lt rfl (.lo n_185 l_begin) .int) (.cons (.an n_124 l_octets (.slc (fun _ _ _ => rfl) (.lo n_124 l_octets) (.some (.bin op_sub .int (.lo n_185 l_begin))) SimP.none)) (.one (.an n_185 l_begin .int))) .nil) (.cons (.an n_188 l_fresh (.me c_Assembly n_187 fm_Assembly_missing ty_1097 kp_1097 (s_Assembly_missing e) (.lo n_1 l_self) (.c (.lo n_185 l_begin) (.c (.lo n_124 l_octets) (.c (.lo n_25 l_next) .nil))))) (.one (.ite (.relN op_ne rfl (.lo n_188 l_fresh) (.list .nil)) (.one (.as (.attr c_Assembly n_172 tk_Assembly_parts (.lo n_1 l_self)) (.me c_Assembly n_191 fm_Assembly_joined ty_1111 kp_1111 (s_Assembly_joined e) (.lo n_1 l_self) (.c (.me c_Assembly n_190 fm_Assembly_merged ty_1104 kp_1104 (s_Assembly_merged e) (.lo n_1 l_self) (.c (.lo n_188 l_fresh) (.c (.lo n_25 l_next) .nil))) (.c (.lo n_25 l_next) .nil))))) .nil))))))
theorem s_Assembly_take (e : Ev) : FnSim (XX e) 6 f_Assembly_take 1125 2 := by
  have l_next : Lo D1125 "next" := by kernel_rfl
  have l_self : Lo D1125 "self" := by kernel_rfl
  exact FnSim.m0 e 5 2 D1125 rfl (fun _ _ _ => .of_eq (by kernel_rfl)) (.cons (.ex (.me c_Assembly n_162 fm_Assembly_forget ty_1118 kp_1118 (s_Assembly_forget e) (.lo n_1 l_self) (.c (.lo n_25 l_next) .nil))) (.cons (.ite (.or (.rel op_eq rfl (.at c_Assembly n_172 fa_Assembly_parts (.lo n_1 l_self)) (.list .nil)) (.or1 (.relN op_ne rfl (.sub (fun _ _ => by kernel_rfl) (.sub (fun _ _ => by kernel_rfl) (.at c_Assembly n_172 fa_Assembly_parts (.lo n_1 l_self)) .int) .int) (.lo n_25 l_next)))) (.one (.ret (.bytes (by kernel_rfl) (by decide)))) .nil) (.one (.ret (.sub (fun _ _ => by kernel_rfl) (.bmeth (T := 1) PySem.F.plainAttrs_list PySem.F.slot_list_pop PySem.F.type_list_pop (by exact fun _ => rfl) (by exact fun _ => rfl) b_pop (.at c_Assembly n_172 fa_Assembly_parts (.lo n_1 l_self)) .int) .int)))))
theorem s_Receiver_gather (e : Ev) : FnSimX (XX e) 7 f_Receiver_gather 1224 1 := by
  have l_fresh : Lo D1224 "fresh" := by kernel_rfl
  have l_self : Lo D1224 "self" := by kernel_rfl
  have y_len : Gl D1224 "len" := by kernel_rfl
  have y_plus : Gl D1224 "plus" := by kernel_rfl
  exact FnSimX.mk (n := 6) (N := 1) (o := (fob D1224)) (fd := D1224) (dv := []) (by kernel_rfl) rfl rfl (by kernel_rfl) (by kernel_rfl) (by kernel_rfl) (by kernel_rfl) (by decide +kernel) rfl rfl (allN_ok fun _ s hF => .of_eq (by kernel_rfl)) (by decide) (loc_all (by kernel_rfl)) (fun _ => .nil) (.cons (SimS.x (.an n_188 l_fresh (.bytes (by kernel_rfl) (by decide)))) (.cons (SimS.x (.ite (.not (.truth (.at c_Receiver n_98 fa_Receiver_has_fin (.lo n_1 l_self)) (by exact fun _ _ => rfl))) (.one (.an n_188 l_fresh (.me c_Assembly n_149 fm_Assembly_take ty_1125 kp_1125 (s_Assembly_take e) (.at c_Receiver n_173 fa_Receiver_assembly (.lo n_1 l_self)) (.c (.at c_Receiver n_25 fa_Receiver_next (.lo n_1 l_self)) .nil)))) .nil)) (.cons (.expr (fun _ => by kernel_rfl) (.extend (by exact fun _ => rfl) (by exact fun _ => rfl) (.at c_Receiver n_93 fa_Receiver_ready (.lo n_1 l_self)) (.lo n_188 l_fresh))) (.cons (SimS.x (.as (.attr c_Receiver n_25 tk_Receiver_next (.lo n_1 l_self)) (.cf g_plus y_plus kp_96 (s_plus e) (.c (.at c_Receiver n_25 fa_Receiver_next (.lo n_1 l_self)) (.c (.cb gn_len gb_len y_len b_len_ok (.c (.lo n_188 l_fresh) .nil)) (.c (.at c_Receiver n_7 fa_Receiver_ring (.lo n_1 l_self)) .nil)))))) (.cons (SimS.x (.ite (.and (.rel op_eq rfl (.at c_Receiver n_174 fa_Receiver_fin_at (.lo n_1 l_self)) (.at c_Receiver n_25 fa_Receiver_next (.lo n_1 l_self))) (.and1 (.not (.truth (.at c_Receiver n_98 fa_Receiver_has_fin (.lo n_1 l_self)) (by exact fun _ _ => rfl))))) (.cons (.as (.attr c_Receiver n_98 tk_Receiver_has_fin (.lo n_1 l_self)) .tt) (.one (.as (.attr c_Receiver n_25 tk_Receiver_next (.lo n_1 l_self)) (.cf g_plus y_plus kp_96 (s_plus e) (.c (.at c_Receiver n_25 fa_Receiver_next (.lo n_1 l_self)) (.c .int (.c (.at c_Receiver n_7 fa_Receiver_ring (.lo n_1 l_self)) .nil))))))) .nil)) (.one (SimS.x (.ret (.cb gn_len gb_len y_len b_len_ok (.c (.lo n_188 l_fresh) .nil))))))))))
theorem s_Receiver_arrive (e : Ev) : FnSimX (XX e) 8 f_Receiver_arrive 1196 4 := by
  have l_fresh : Lo D1196 "fresh" := by kernel_rfl
  have l_has_fin : Lo D1196 "has_fin" := by kernel_rfl
  have l_is_in_order : Lo D1196 "is_in_order" := by kernel_rfl
  have l_kept : Lo D1196 "kept" := by kernel_rfl
  have l_octets : Lo D1196 "octets" := by kernel_rfl
  have l_self : Lo D1196 "self" := by kernel_rfl
  have l_seq : Lo D1196 "seq" := by kernel_rfl
  have y_is_at_most : Gl D1196 "is_at_most" := by kernel_rfl
  have y_len : Gl D1196 "len" := by kernel_rfl
  have y_plus : Gl D1196 "plus" := by kernel_rfl
  exact FnSimX.mk (n := 7) (N := 4) (o := (fob D1196)) (fd := D1196) (dv := []) (by kernel_rfl) rfl rfl (by kernel_rfl) (by kernel_rfl) (by kernel_rfl) (by kernel_rfl) (by decide +kernel) rfl rfl (allN_ok fun _ _ _ _ s hF => .of_eq (by kernel_rfl)) (by decide) (loc_all (by kernel_rfl)) (fun _ => .nil) (.cons (SimS.x (.an n_176 l_is_in_order (.cf g_is_at_most y_is_at_most kp_117 (s_is_at_most e) (.c (.lo n_103 l_seq) (.c (.at c_Receiver n_25 fa_Receiver_next (.lo n_1 l_self)) (.c (.at c_Receiver n_7 fa_Receiver_ring (.lo n_1 l_self)) .nil)))))) (.cons (SimS.x (.an n_178 l_kept (.me c_Receiver n_177 fm_Receiver_let_in ty_1203 kp_1203 (s_Receiver_let_in e) (.lo n_1 l_self) (.c (.lo n_103 l_seq) (.c (.lo n_124 l_octets) .nil))))) (.cons (SimS.x (.ite (.and (.truth (.lo n_98 l_has_fin) (by exact fun _ _ => rfl)) (.and1 (.rel op_eq rfl (.cb gn_len gb_len y_len b_len_ok (.c (.lo n_178 l_kept) .nil)) (.cb gn_len gb_len y_len b_len_ok (.c (.lo n_124 l_octets) .nil))))) (.one (.ex (.me c_Receiver n_183 fm_Receiver_note_fin ty_1210 kp_1210 (s_Receiver_note_fin e) (.lo n_1 l_self) (.c (.cf g_plus y_plus kp_96 (s_plus e) (.c (.lo n_103 l_seq) (.c (.cb gn_len gb_len y_len b_len_ok (.c (.lo n_124 l_octets) .nil)) (.c (.at c_Receiver n_7 fa_Receiver_ring (.lo n_1 l_self)) .nil)))) .nil)))) .nil)) (.cons (SimS.x (.ite (.isNotNone (.at c_Receiver n_174 fa_Receiver_fin_at (.lo n_1 l_self))) (.one (.an n_178 l_kept (.me c_Receiver n_184 fm_Receiver_ahead_of_fin ty_1217 kp_1217 (s_Receiver_ahead_of_fin e) (.lo n_1 l_self) (.c (.lo n_103 l_seq) (.c (.lo n_178 l_kept) .nil))))) .nil)) (.cons (SimS.x (.ite (.and (.not (.truth (.at c_Receiver n_98 fa_Receiver_has_fin (.lo n_1 l_self)) (by exact fun _ _ => rfl))) (.and1 (.relN op_ne rfl (.lo n_178 l_kept) (.bytes (by kernel_rfl) (by decide))))) (.one (.ex (.me c_Assembly n_141 fm_Assembly_put ty_1090 kp_1090 (s_Assembly_put e) (.at c_Receiver n_173 fa_Receiver_assembly (.lo n_1 l_self)) (.c (.lo n_103 l_seq) (.c (.lo n_178 l_kept) (.c (.at c_Receiver n_25 fa_Receiver_next (.lo n_1 l_self)) .nil)))))) .nil)) (.cons (.asgName n_188 l_fresh.l (fun _ => by kernel_rfl) (.me c_Receiver n_192 fm_Receiver_gather ty_1224 kp_1224 (s_Receiver_gather e) (.lo n_1 l_self) .nil)) (.one (SimS.x (.ret (.tup (.c (.lo n_188 l_fresh) (.c (.lo n_176 l_is_in_order) .nil))))))))))))
theorem s__law_made (e : Ev) : FnSimX (XX e) 9 f__law_made 1308 3 := by
  have l_iss : Lo D1308 "iss" := by kernel_rfl
  have l_key : Lo D1308 "key" := by kernel_rfl
  have l_place : Lo D1308 "place" := by kernel_rfl
  have l_state : Lo D1308 "state" := by kernel_rfl
  have l_tcb : Lo D1308 "tcb" := by kernel_rfl
  have y_Limits : Gl D1308 "Limits" := by kernel_rfl
  have y_Receiver : Gl D1308 "Receiver" := by kernel_rfl
  have y_Tcb : Gl D1308 "Tcb" := by kernel_rfl
  exact FnSimX.mk (n := 8) (N := 3) (o := (fob D1308)) (fd := D1308) (dv := []) (by kernel_rfl) rfl rfl (by kernel_rfl) (by kernel_rfl) (by kernel_rfl) (by kernel_rfl) (by decide +kernel) rfl rfl (allN_ok fun _ _ _ s hF => .of_eq (by kernel_rfl)) (by decide) (loc_all (by kernel_rfl)) (fun _ => .nil) (.cons (SimS.x (.an n_75 l_tcb (.cc g_Tcb y_Tcb kc_Tcb mk_Tcb fm_Tcb___init__ ty_888 (s_Tcb___init__ e) (.c (.cc g_Limits y_Limits kc_Limits mk_Limits fm_Limits___init__ ty_860 (s_Limits___init__ e) (.c .int (.c .int (.c .int (.c .int (.c .int (.c .int (.c .int (.c .int (.c .int (.c .int .nil))))))))))) (.c (.tup (.c .int (.c .int .nil))) (.c (.tup (.c .int (.c .int .nil))) (.c (.lo n_23 l_iss) .nil))))))) (.cons (SimS.x (.as (.attr c_Tcb n_22 tk_Tcb_state (.lo n_75 l_tcb)) (.lo n_22 l_state))) (.cons (SimS.x (.ex (.me c_Sender n_110 fm_Sender_go_on ty_588 kp_588 (s_Sender_go_on e) (.at c_Tcb n_37 fa_Tcb_sender (.lo n_75 l_tcb)) (.c .int .nil)))) (.cons (SimS.x (.ex (.me c_Sender n_161 fm_Sender_back_to ty_645 kp_645 (s_Sender_back_to e) (.at c_Tcb n_37 fa_Tcb_sender (.lo n_75 l_tcb)) (.c (.bin op_mod (.bin op_add (.lo n_23 l_iss) .int) .int) .nil)))) (.cons (.ite (SimT.x (.isNotNone (.lo n_64 l_place))) (.cons (.asg (fun _ => by kernel_rfl) (fun _ => by kernel_rfl) (by exact fun _ => rfl) (.attr c_Tcb n_38 tk_Tcb_receiver (.lo n_75 l_tcb)) (.cc g_Receiver y_Receiver kc_Receiver mk_Receiver fm_Receiver___init__ ty_1161 (s_Receiver___init__ e) (.c (.lo n_64 l_place) (.c .int (.c .int (.c .int .nil)))))) (.one (.expr (fun _ => by kernel_rfl) (.me c_Receiver n_193 fm_Receiver_arrive ty_1196 kp_1196 (s_Receiver_arrive e) (.at c_Tcb n_38 fa_Tcb_receiver (.lo n_75 l_tcb)) (.c (.bin op_mod (.bin op_add (.lo n_64 l_place) .int) .int) (.c (.bytes (by kernel_rfl) (by decide)) (.c .ff .nil))))))) (SimB.x .nil)) (.cons (SimS.x (.for_ (by exact fun _ _ => rfl) (by exact fun _ _ => rfl) (.name n_83 l_key.l) (.list (.c .int (.c .int (.c .int (.c .int .nil))))) (.one (.ex (.me c_Wheel n_141 fm_Wheel_put ty_799 kp_799 (s_Wheel_put e) (.at c_Tcb n_70 fa_Tcb_wheel (.lo n_75 l_tcb)) (.c (.lo n_83 l_key) (.c (.bin op_add .int (.lo n_83 l_key)) .nil))))))) (.one (SimS.x (.ret (.lo n_75 l_tcb))))))))))
theorem s_Segment_row (e : Ev) : FnSim (XX e) 2 f_Segment_row 723 1 := by
  have l_numbers : Lo D723 "numbers" := by kernel_rfl
  have l_self : Lo D723 "self" := by kernel_rfl
  have y_bytes : Gl D723 "bytes" := by kernel_rfl
  exact FnSim.m0 e 1 1 D723 rfl (fun _ _ => .of_eq (by kernel_rfl)) (.cons (.an n_195 l_numbers (.tup (.c (.at c_Segment n_105 fa_Segment_source_port (.lo n_1 l_self)) (.c (.at c_Segment n_107 fa_Segment_target_port (.lo n_1 l_self)) (.c (.at c_Segment n_103 fa_Segment_seq (.lo n_1 l_self)) (.c (.at c_Segment n_79 fa_Segment_ack (.lo n_1 l_self)) (.c (.at c_Segment n_80 fa_Segment_flags (.lo n_1 l_self)) (.c (.at c_Segment n_101 fa_Segment_window (.lo n_1 l_self)) (.c (.at c_Segment n_108 fa_Segment_urgent (.lo n_1 l_self)) .nil))))))))) (.one (.ret (.bin op_add (.lo n_195 l_numbers) (.tup (.c (.cb gn_bytes gb_bytes y_bytes b_bytes_ok (.c (.at c_Segment n_91 fa_Segment_options (.lo n_1 l_self)) .nil)) (.c (.cb gn_bytes gb_bytes y_bytes b_bytes_ok (.c (.at c_Segment n_104 fa_Segment_payload (.lo n_1 l_self)) .nil)) .nil)))))))
theorem s_abort (e : Ev) : FnSim (XX e) 8 f_abort 966 2 := by
  have l_found : Lo D966 "found" := by kernel_rfl
  have l_tcb : Lo D966 "tcb" := by kernel_rfl
  have y_CLOSING : Gl D966 "CLOSING" := by kernel_rfl
  have y_LAST_ACK : Gl D966 "LAST_ACK" := by kernel_rfl
  have y_LISTEN : Gl D966 "LISTEN" := by kernel_rfl
  have y_RST : Gl D966 "RST" := by kernel_rfl
  have y_SYN_SENT : Gl D966 "SYN_SENT" := by kernel_rfl
  have y_TIME_WAIT : Gl D966 "TIME_WAIT" := by kernel_rfl
  have y_closed : Gl D966 "closed" := by kernel_rfl
  have y_follow : Gl D966 "follow" := by kernel_rfl
  exact FnSim.m0 e 7 2 D966 rfl (fun _ _ _ => .of_eq (by kernel_rfl)) (.cons (.ite (.isNone (.cf g_follow y_follow kp_765 (s_follow e) (.c (.at c_Tcb n_22 fa_Tcb_state (.lo n_75 l_tcb)) (.c (.str t_22) .nil)))) (.one .bad) .nil) (.cons (.an n_77 l_found (.list .nil)) (.cons (.ite (.relN op_notIn rfl (.at c_Tcb n_22 fa_Tcb_state (.lo n_75 l_tcb)) (.tup (.c (.gl g_LISTEN (fun _ => ⟨_, by rw [t_3]⟩) y_LISTEN) (.c (.gl g_SYN_SENT (fun _ => ⟨_, by rw [t_4]⟩) y_SYN_SENT) (.c (.gl g_CLOSING (fun _ => ⟨_, by rw [t_15]⟩) y_CLOSING) (.c (.gl g_LAST_ACK (fun _ => ⟨_, by rw [t_13]⟩) y_LAST_ACK) (.c (.gl g_TIME_WAIT (fun _ => ⟨_, by rw [t_17]⟩) y_TIME_WAIT) .nil))))))) (.one (.ex (.bmeth (T := 1) PySem.F.plainAttrs_list PySem.F.slot_list_append PySem.F.type_list_append (by exact fun _ => rfl) (by exact fun _ => rfl) b_append (.lo n_77 l_found) (.me c_Tcb n_112 fm_Tcb_make ty_903 kp_903 (s_Tcb_make_3 e) (.lo n_75 l_tcb) (.c (.gl g_RST (fun _ => ⟨_, rfl⟩) y_RST) (.c (.at c_Sender n_25 fa_Sender_next (.at c_Tcb n_37 fa_Tcb_sender (.lo n_75 l_tcb))) .nil)))))) .nil) (.cons (.ex (.cf g_closed y_closed kp_924 (s_closed e) (.c (.lo n_75 l_tcb) (.c SimE.none' .nil)))) (.one (.ret (.lo n_77 l_found)))))))
theorem s__law_given_up_right (e : Ev) : FnSimX (XX e) 10 f__law_given_up_right 1318 3 := by
  have l_iss : Lo D1318 "iss" := by kernel_rfl
  have l_place : Lo D1318 "place" := by kernel_rfl
  have l_rows : Lo D1318 "rows" := by kernel_rfl
  have l_state : Lo D1318 "state" := by kernel_rfl
  have l_tcb : Lo D1318 "tcb" := by kernel_rfl
  have y__law_made : Gl D1318 "_law_made" := by kernel_rfl
  have y__law_times : Gl D1318 "_law_times" := by kernel_rfl
  exact FnSimX.mk (n := 9) (N := 3) (o := (fob D1318)) (fd := D1318) (dv := []) (by kernel_rfl) rfl rfl (by kernel_rfl) (by kernel_rfl) (by kernel_rfl) (by kernel_rfl) (by decide +kernel) rfl rfl (allN_ok fun _ _ _ s hF => .of_eq (by kernel_rfl)) (by decide) (loc_all (by kernel_rfl)) (fun _ => .nil) (.cons (.asgName n_75 l_tcb.l (fun _ => by kernel_rfl) (.cf g__law_made y__law_made kp_1308 (s__law_made e) (.c (.lo n_22 l_state) (.c (.lo n_64 l_place) (.c (.lo n_23 l_iss) .nil))))) (.cons (SimS.x (.an n_194 l_rows (.list (.c (.tup (.c .int (.c .int (.c (.bin op_mod (.bin op_add (.lo n_23 l_iss) .int) .int) (.c .int (.c .int (.c .int (.c .int (.c (.bytes (by kernel_rfl) (by decide)) (.c (.bytes (by kernel_rfl) (by decide)) .nil)))))))))) .nil)))) (.cons (SimS.x (.ite (.isNotNone (.lo n_64 l_place)) (.one (.an n_194 l_rows (.list (.c (.tup (.c .int (.c .int (.c (.bin op_mod (.bin op_add (.lo n_23 l_iss) .int) .int) (.c (.bin op_mod (.bin op_add (.lo n_64 l_place) .int) .int) (.c .int (.c .int (.c .int (.c (.bytes (by kernel_rfl) (by decide)) (.c (.bytes (by kernel_rfl) (by decide)) .nil)))))))))) .nil)))) .nil)) (.cons (SimS.x (.ite (.relN op_ne rfl (.comp (by exact fun _ _ => rfl) (by decide +kernel) (by decide +kernel) rfl (by decide +kernel) (by exact fun _ _ => rfl) (.name n_196 (by kernel_rfl)) (.me c_Segment n_197 fm_Segment_row ty_723 kp_723 (s_Segment_row e) (.lo n_196 (by kernel_rfl)) .nil) (.cf g_abort (by kernel_rfl) kp_966 (s_abort e) (.c (.lo n_75 (by kernel_rfl)) (.c .int .nil)))) (.lo n_194 l_rows)) (.one (.ret .ff)) .nil)) (.one (SimS.x (.ret (.val (.and (.rel op_eq rfl (.list (.c (.at c_Tcb n_22 fa_Tcb_state (.lo n_75 l_tcb)) (.c (.at c_Tcb n_71 fa_Tcb_error (.lo n_75 l_tcb)) .nil))) (.list (.c (.str t_1) (.c SimE.none' .nil)))) (.and1 (.rel op_eq rfl (.cf g__law_times y__law_times kp_1313 (s__law_times e) (.c (.lo n_75 l_tcb) .nil)) (.bin op_mul (.list (.c SimE.none' .nil)) .int))))))))))))
theorem s_enter_time_wait (e : Ev) : FnSim (XX e) 4 f_enter_time_wait 931 2 := by
  have l_key : Lo D931 "key" := by kernel_rfl
  have l_now : Lo D931 "now" := by kernel_rfl
  have l_tcb : Lo D931 "tcb" := by kernel_rfl
  have y_PERSIST : Gl D931 "PERSIST" := by kernel_rfl
  have y_RESEND : Gl D931 "RESEND" := by kernel_rfl
  have y_TIME_WAIT : Gl D931 "TIME_WAIT" := by kernel_rfl
  have y_WAIT : Gl D931 "WAIT" := by kernel_rfl
  exact FnSim.m0 e 3 2 D931 rfl (fun _ _ _ => .of_eq (by kernel_rfl)) (.cons (.as (.attr c_Tcb n_22 tk_Tcb_state (.lo n_75 l_tcb)) (.gl g_TIME_WAIT (fun _ => ⟨_, by rw [t_17]⟩) y_TIME_WAIT)) (.cons (.for_ (by exact fun _ _ => rfl) (by exact fun _ _ => rfl) (.name n_83 l_key.l) (.tup (.c (.gl g_RESEND (fun _ => ⟨_, rfl⟩) y_RESEND) (.c (.gl g_PERSIST (fun _ => ⟨_, rfl⟩) y_PERSIST) .nil))) (.one (.ex (.me c_Wheel n_87 fm_Wheel_cancel ty_813 kp_813 (s_Wheel_cancel e) (.at c_Tcb n_70 fa_Tcb_wheel (.lo n_75 l_tcb)) (.c (.lo n_83 l_key) .nil))))) (.one (.ex (.me c_Wheel n_141 fm_Wheel_put ty_799 kp_799 (s_Wheel_put e) (.at c_Tcb n_70 fa_Tcb_wheel (.lo n_75 l_tcb)) (.c (.gl g_WAIT (fun _ => ⟨_, rfl⟩) y_WAIT) (.c (.bin op_add (.lo n_78 l_now) (.at c_Limits n_17 fa_Limits_time_wait (.at c_Tcb n_18 fa_Tcb_limits (.lo n_75 l_tcb)))) .nil)))))))
theorem s__law_waits_right (e : Ev) : FnSimX (XX e) 10 f__law_waits_right 1325 3 := by
  have l_iss : Lo D1325 "iss" := by kernel_rfl
  have l_now : Lo D1325 "now" := by kernel_rfl
  have l_place : Lo D1325 "place" := by kernel_rfl
  have l_tcb : Lo D1325 "tcb" := by kernel_rfl
  have y__law_made : Gl D1325 "_law_made" := by kernel_rfl
  have y__law_times : Gl D1325 "_law_times" := by kernel_rfl
  have y_closed : Gl D1325 "closed" := by kernel_rfl
  have y_enter_time_wait : Gl D1325 "enter_time_wait" := by kernel_rfl
  exact FnSimX.mk (n := 9) (N := 3) (o := (fob D1325)) (fd := D1325) (dv := []) (by kernel_rfl) rfl rfl (by kernel_rfl) (by kernel_rfl) (by kernel_rfl) (by kernel_rfl) (by decide +kernel) rfl rfl (allN_ok fun _ _ _ s hF => .of_eq (by kernel_rfl)) (by decide) (loc_all (by kernel_rfl)) (fun _ => .nil) (.cons (.asgName n_75 l_tcb.l (fun _ => by kernel_rfl) (.cf g__law_made y__law_made kp_1308 (s__law_made e) (.c (.str t_16) (.c (.lo n_64 l_place) (.c (.lo n_23 l_iss) .nil))))) (.cons (SimS.x (.ex (.cf g_enter_time_wait y_enter_time_wait kp_931 (s_enter_time_wait e) (.c (.lo n_75 l_tcb) (.c (.lo n_78 l_now) .nil))))) (.cons (SimS.x (.ite (.relN op_ne rfl (.bin op_add (.list (.c (.at c_Tcb n_22 fa_Tcb_state (.lo n_75 l_tcb)) .nil)) (.cf g__law_times y__law_times kp_1313 (s__law_times e) (.c (.lo n_75 l_tcb) .nil))) (.list (.c (.str t_17) (.c SimE.none' (.c SimE.none' (.c .int (.c (.bin op_add (.lo n_78 l_now) .int) .nil))))))) (.one (.ret .ff)) .nil)) (.cons (SimS.x (.ex (.cf g_closed y_closed kp_924 (s_closed e) (.c (.lo n_75 l_tcb) (.c (.str t_21) .nil))))) (.one (SimS.x (.ret (.val (.and (.rel op_eq rfl (.list (.c (.at c_Tcb n_22 fa_Tcb_state (.lo n_75 l_tcb)) (.c (.at c_Tcb n_71 fa_Tcb_error (.lo n_75 l_tcb)) .nil))) (.list (.c (.str t_1) (.c (.str t_21) .nil)))) (.and1 (.rel op_eq rfl (.cf g__law_times y__law_times kp_1313 (s__law_times e) (.c (.lo n_75 l_tcb) .nil)) (.bin op_mul (.list (.c SimE.none' .nil)) .int))))))))))))
theorem s__law_take (e : Ev) : FnSim (XX e) 2 f__law_take 1294 2 := by
  have l_drawn : Lo D1294 "drawn" := by kernel_rfl
  have l_source : Lo D1294 "source" := by kernel_rfl
  have l_top : Lo D1294 "top" := by kernel_rfl
  exact FnSim.m0 e 1 2 D1294 rfl (fun _ _ _ => .of_eq (by kernel_rfl)) (.cons (.ite (.rel op_gt rfl (.sub (fun _ _ => by kernel_rfl) (.lo n_198 l_source) .int) .int) (.cons (.an n_200 l_drawn (.bin op_mod (.sub (fun _ _ => by kernel_rfl) (.lo n_198 l_source) .int) (.lo n_199 l_top))) (.cons (.as (.sub (.lo n_198 l_source) .int) (.bin op_fdv (.sub (fun _ _ => by kernel_rfl) (.lo n_198 l_source) .int) (.lo n_199 l_top))) (.one (.ret (.lo n_200 l_drawn))))) .nil) (.cons (.as (.sub (.lo n_198 l_source) .int) (.bin op_mod (.bin op_add (.bin op_mul (.sub (fun _ _ => by kernel_rfl) (.lo n_198 l_source) .int) .int) .int) .int)) (.one (.ret (.bin op_mod (.bin op_fdv (.bin op_mod (.bin op_mul (.sub (fun _ _ => by kernel_rfl) (.lo n_198 l_source) .int) (.sub (fun _ _ => by kernel_rfl) (.lo n_198 l_source) .int)) .int) .int) (.lo n_199 l_top))))))
theorem s__law_one (e : Ev) : FnSim (XX e) 3 f__law_one 1301 2 := by
  have l_source : Lo D1301 "source" := by kernel_rfl
  have l_things : Lo D1301 "things" := by kernel_rfl
  have y__law_take : Gl D1301 "_law_take" := by kernel_rfl
  have y_len : Gl D1301 "len" := by kernel_rfl
  exact FnSim.m0 e 2 2 D1301 rfl (fun _ _ _ => .of_eq (by kernel_rfl)) (.one (.ret (.sub (fun _ _ => by kernel_rfl) (.lo n_201 l_things) (.cf g__law_take y__law_take kp_1294 (s__law_take e) (.c (.lo n_198 l_source) (.c (.cb gn_len gb_len y_len b_len_ok (.c (.lo n_201 l_things) .nil)) .nil))))))
noncomputable def lanes (lo : Int) (n : Nat) : List Int := (List.range n).map fun (i : Nat) => lo + (i : Int)
noncomputable def alive1 (n : Nat) : List Bool := (List.range n).map fun _ => true
theorem lanes_at {lo : Int} {n i : Nat} (h : i < n) : (lanes lo n)[i]? = some (lo + (i : Int)) := by simp [lanes, h]
theorem alive_at {n i : Nat} (h : i < n) : (alive1 n)[i]? = some true := by simp [alive1, h]
noncomputable def σt : St := ⟨.nil, 0, .nil, .cons 0 (alive1 17) .nil⟩
noncomputable def σg : St := ⟨.nil, 0, .nil, .cons 0 (alive1 256) .nil⟩
noncomputable def σw : St := ⟨.nil, 0, .nil, .cons 0 (alive1 256) (.cons 1 (alive1 90) .nil)⟩
noncomputable abbrev CT (b : AV) (c d : Int) : Prop := f__law_tries_right [.vec 0 (lanes 4 17), b, .int c, .int d] σt isT = true
noncomputable abbrev CG (q : Nat) (p : AV) : Prop := f__law_given_up_right [.str q, p, .vec 0 (lanes 0 256)] σg isT = true
theorem ct_tt20 : CT .tt 2 0 := by kernel_rfl
theorem ct_tt21 : CT .tt 2 1 := by kernel_rfl
theorem ct_tt22 : CT .tt 2 2 := by kernel_rfl
theorem ct_tt30 : CT .tt 3 0 := by kernel_rfl
theorem ct_tt31 : CT .tt 3 1 := by kernel_rfl
theorem ct_tt32 : CT .tt 3 2 := by kernel_rfl
theorem ct_tt40 : CT .tt 4 0 := by kernel_rfl
theorem ct_tt41 : CT .tt 4 1 := by kernel_rfl
theorem ct_tt42 : CT .tt 4 2 := by kernel_rfl
theorem ct_ff20 : CT .ff 2 0 := by kernel_rfl
theorem ct_ff21 : CT .ff 2 1 := by kernel_rfl
theorem ct_ff22 : CT .ff 2 2 := by kernel_rfl
theorem ct_ff30 : CT .ff 3 0 := by kernel_rfl
theorem ct_ff31 : CT .ff 3 1 := by kernel_rfl
theorem ct_ff32 : CT .ff 3 2 := by kernel_rfl
theorem ct_ff40 : CT .ff 4 0 := by kernel_rfl
theorem ct_ff41 : CT .ff 4 1 := by kernel_rfl
theorem ct_ff42 : CT .ff 4 2 := by kernel_rfl
theorem cg_6_255 : CG 6 (.int 255) := by kernel_rfl
theorem cg_6_40 : CG 6 (.int 40) := by kernel_rfl
theorem cg_6_252 : CG 6 (.int 252) := by kernel_rfl
theorem cg_6_none : CG 6 .none := by kernel_rfl
theorem cg_8_255 : CG 8 (.int 255) := by kernel_rfl
theorem cg_8_40 : CG 8 (.int 40) := by kernel_rfl
theorem cg_8_252 : CG 8 (.int 252) := by kernel_rfl
theorem cg_8_none : CG 8 .none := by kernel_rfl
theorem cg_11_255 : CG 11 (.int 255) := by kernel_rfl
theorem cg_11_40 : CG 11 (.int 40) := by kernel_rfl
theorem cg_11_252 : CG 11 (.int 252) := by kernel_rfl
theorem cg_11_none : CG 11 .none := by kernel_rfl
theorem cg_16_255 : CG 16 (.int 255) := by kernel_rfl
theorem cg_16_40 : CG 16 (.int 40) := by kernel_rfl
theorem cg_16_252 : CG 16 (.int 252) := by kernel_rfl
theorem cg_16_none : CG 16 .none := by kernel_rfl
theorem cg_12_255 : CG 12 (.int 255) := by kernel_rfl
theorem cg_12_40 : CG 12 (.int 40) := by kernel_rfl
theorem cg_12_252 : CG 12 (.int 252) := by kernel_rfl
theorem cg_12_none : CG 12 .none := by kernel_rfl
theorem cw_255 : f__law_waits_right [.int 255, .vec 0 (lanes 0 256), .vec 1 (lanes 0 90)] σw isT = true := by kernel_rfl
theorem cw_40 : f__law_waits_right [.int 40, .vec 0 (lanes 0 256), .vec 1 (lanes 0 90)] σw isT = true := by kernel_rfl
theorem cw_252 : f__law_waits_right [.int 252, .vec 0 (lanes 0 256), .vec 1 (lanes 0 90)] σw isT = true := by kernel_rfl
theorem HRel.later {X : Cx} {W : Wd} {σ : St} {s s' : Shared} (H : HRel X W σ s) (k : ∀ b o, s.heap.get? b = some o → s'.heap.get? b = some o) (g : s'.gens = #[]) (os : s'.os = s.os) : HRel X W σ s' ∧ StepE s W s' W := by
  have ex : ∀ b, (s.heap.get? b).isSome = true → (s'.heap.get? b).isSome = true := fun b hb => by
    obtain ⟨o, ho⟩ := Option.isSome_iff_exists.mp hb
    rw [k _ _ ho]; rfl
  refine ⟨⟨fun b o e => k b o (H.base b o e), H.nx, fun i p hp => ?_, H.inj, H.old, fun b hb => ex b (H.ex b hb), H.mask, g⟩, ⟨.refl W, fun b o e _ _ => k b o e, fun _ h => .inl h, ex, os⟩⟩
  obtain ⟨o, h1, h2⟩ := H.obj i p hp
  exact ⟨o, h1, h2.at (.refl W) (fun _ => k _ _) (fun _ => k _ _)⟩
theorem start_rel {X : Cx} {j : List Nat} {ms : MK} {s : Shared} (hb : ∀ b o, X.h₀.get? b = some o → s.heap.get? b = some o) (hg : s.gens = #[]) (hm : ∀ t l, ms.at t = some l → ∃ n : Nat, j[t]? = some n ∧ l[n]? = some true) : HRel X ⟨[], j⟩ ⟨.nil, 0, .nil, ms⟩ s :=
  ⟨hb, rfl, fun i p h => by simp at h, fun i i' p p' h => by simp at h, fun b h => by (obtain ⟨p, hp, _⟩ := h; simp at hp), fun b h => by (obtain ⟨p, hp, _⟩ := h; simp at hp), hm, hg⟩
theorem isT_ok {X : Cx} {W : Wd} {v : AV} {σ : St} {a : Value} (h : isT v σ = true) (V : VR X W v a) : a = .bool true := by
  cases v <;> first | exact (nomatch (show false = true from h)) | exact V
theorem cont_true {X : Cx} {j : List Nat} {ms : MK} {s : Shared} {σ : St} {W : Wd} {k : K} {Q : Value → Shared → Prop} (H : HRel X W σ s) (h : k .tt σ = true) (C : Cont X σ s W k Q) : Cont X ⟨.nil, 0, .nil, ms⟩ s ⟨[], j⟩ isT Q := by
  intro v σ' W' s' a hv e x H' V
  have := isT_ok hv V
  subst this
  obtain ⟨H2, S2⟩ := H.later (s' := s') (fun b o g => x.keep b o g (fun q => by (obtain ⟨p, hp, _⟩ := q; simp at hp)) id) H'.gens x.os
  exact C .tt σ W s' _ h rfl S2 H2 rfl
noncomputable def inR (lo hi x : Int) : Bool := decide (lo ≤ x) && decide (x ≤ hi)
theorem inR_ok {lo hi x : Int} (h : inR lo hi x = true) : lo ≤ x ∧ x ≤ hi := by simpa [inR] using h
theorem inR_mk {lo hi x : Int} (h1 : lo ≤ x) (h2 : x ≤ hi) : inR lo hi x = true := by simp [inR, h1, h2]
theorem lane_vr {X : Cx} {W : Wd} {t : Nat} {lo : Int} {n : Nat} {x : Int} {k : Tok} (h1 : lo ≤ x) (h2 : x < lo + n) (hj : W.j[t]? = some (x - lo).toNat) : VR X W (.vec t (lanes lo n)) (.int x k) :=
  ⟨(x - lo).toNat, x, k, hj, by rw [lanes_at (by omega)]; congr 1; omega, rfl⟩
theorem VRs.nil_of {X : Cx} {W : Wd} {vs : List Value} (h : VRs X W [] vs) : vs = [] := by cases h; rfl
theorem VRs.cons_of {X : Cx} {W : Wd} {a : AV} {as : List AV} {vs : List Value} (h : VRs X W (a :: as) vs) : ∃ v ws, vs = v :: ws ∧ VR X W a v ∧ VRs X W as ws := by cases h with | cons x y => exact ⟨_, _, rfl, x, y⟩
theorem mask1 {n i : Nat} (h : i < n) : ∀ t l, (MK.cons 0 (alive1 n) .nil).at t = some l → ∃ q : Nat, [i][t]? = some q ∧ l[q]? = some true := by
  intro t l q
  simp only [MK.at] at q
  split at q
  · rename_i e
    cases q
    subst e
    exact ⟨i, rfl, alive_at h⟩
  · cases q
theorem mask2 {n m i j : Nat} (h : i < n) (h' : j < m) : ∀ t l, (MK.cons 0 (alive1 n) (.cons 1 (alive1 m) .nil)).at t = some l → ∃ q : Nat, [i, j][t]? = some q ∧ l[q]? = some true := by
  intro t l q
  simp only [MK.at] at q
  split at q
  · rename_i e
    cases q
    subst e
    exact ⟨i, rfl, alive_at h⟩
  · split at q
    · rename_i e
      cases q
      subst e
      exact ⟨j, rfl, alive_at h'⟩
    · cases q
noncomputable def g_tries : MF := fun as σ k => match as with
  | [.int a, .tt, .int c, .int d] => inR 4 20 a && (inR 2 4 c && (inR 0 2 d && k .tt σ))
  | [.int a, .ff, .int c, .int d] => inR 4 20 a && (inR 2 4 c && (inR 0 2 d && k .tt σ))
  | _ => false
noncomputable def g_given : MF := fun as σ k => match as with
  | [.str q, .int p, .int i] => (Nat.beq q 6 || (Nat.beq q 8 || (Nat.beq q 11 || (Nat.beq q 16 || Nat.beq q 12)))) && ((decide (p = 255) || (decide (p = 40) || decide (p = 252))) && (inR 0 255 i && k .tt σ))
  | [.str q, .none, .int i] => (Nat.beq q 6 || (Nat.beq q 8 || (Nat.beq q 11 || (Nat.beq q 16 || Nat.beq q 12)))) && (inR 0 255 i && k .tt σ)
  | _ => false
noncomputable def g_waits : MF := fun as σ k => match as with
  | [.int p, .int i, .int j] => (decide (p = 255) || (decide (p = 40) || decide (p = 252))) && (inR 0 255 i && (inR 0 89 j && k .tt σ))
  | _ => false
theorem s_g_tries (e : Ev) : FnSim (XX e) 12 g_tries 1337 4 := by
  intro A hA as hN σ k h E s W Q vs H V C
  unfold g_tries at h
  split at h
  · rename_i a c d
    simp only [Bool.and_eq_true] at h
    obtain ⟨h1, h2, h3, h4⟩ := h
    have h1 := inR_ok h1
    have h2 := inR_ok h2
    have h3 := inR_ok h3
    obtain ⟨v1, ws, rfl, V1, V⟩ := VRs.cons_of V
    obtain ⟨v2, ws, rfl, V2, V⟩ := VRs.cons_of V
    obtain ⟨v3, ws, rfl, V3, V⟩ := VRs.cons_of V
    obtain ⟨v4, ws, rfl, V4, V⟩ := VRs.cons_of V
    obtain rfl := VRs.nil_of V
    obtain ⟨t1, rfl⟩ := V1
    obtain ⟨t4, rfl⟩ := V4
    have key : CT .tt c d := by
      have hc : c = 2 ∨ c = 3 ∨ c = 4 := by omega
      have hd : d = 0 ∨ d = 1 ∨ d = 2 := by omega
      rcases hc with rfl | rfl | rfl <;> rcases hd with rfl | rfl | rfl
      · exact ct_tt20
      · exact ct_tt21
      · exact ct_tt22
      · exact ct_tt30
      · exact ct_tt31
      · exact ct_tt32
      · exact ct_tt40
      · exact ct_tt41
      · exact ct_tt42
    exact s__law_tries_right e A hA _ rfl σt isT key E s ⟨[], [(a - 4).toNat]⟩ Q _ (start_rel H.base H.gens (mask1 (by omega))) (.cons (lane_vr h1.1 (by omega) rfl) (.cons V2 (.cons V3 (.cons ⟨t4, rfl⟩ .nil)))) (cont_true H h4 C)
  · rename_i a c d
    simp only [Bool.and_eq_true] at h
    obtain ⟨h1, h2, h3, h4⟩ := h
    have h1 := inR_ok h1
    have h2 := inR_ok h2
    have h3 := inR_ok h3
    obtain ⟨v1, ws, rfl, V1, V⟩ := VRs.cons_of V
    obtain ⟨v2, ws, rfl, V2, V⟩ := VRs.cons_of V
    obtain ⟨v3, ws, rfl, V3, V⟩ := VRs.cons_of V
    obtain ⟨v4, ws, rfl, V4, V⟩ := VRs.cons_of V
    obtain rfl := VRs.nil_of V
    obtain ⟨t1, rfl⟩ := V1
    obtain ⟨t4, rfl⟩ := V4
    have key : CT .ff c d := by
      have hc : c = 2 ∨ c = 3 ∨ c = 4 := by omega
      have hd : d = 0 ∨ d = 1 ∨ d = 2 := by omega
      rcases hc with rfl | rfl | rfl <;> rcases hd with rfl | rfl | rfl
      · exact ct_ff20
      · exact ct_ff21
      · exact ct_ff22
      · exact ct_ff30
      · exact ct_ff31
      · exact ct_ff32
      · exact ct_ff40
      · exact ct_ff41
      · exact ct_ff42
    exact s__law_tries_right e A hA _ rfl σt isT key E s ⟨[], [(a - 4).toNat]⟩ Q _ (start_rel H.base H.gens (mask1 (by omega))) (.cons (lane_vr h1.1 (by omega) rfl) (.cons V2 (.cons V3 (.cons ⟨t4, rfl⟩ .nil)))) (cont_true H h4 C)
  · cases h
theorem s_g_given (e : Ev) : FnSimX (XX e) 10 g_given 1318 3 := by
  intro A hA as hN σ k h E s W Q vs H V C
  unfold g_given at h
  split at h
  · rename_i q p i
    simp only [Bool.and_eq_true, Bool.or_eq_true, nbeq_iff, decide_eq_true_eq] at h
    obtain ⟨h1, h2, h3, h4⟩ := h
    have h3 := inR_ok h3
    obtain ⟨v1, ws, rfl, V1, V⟩ := VRs.cons_of V
    obtain ⟨v2, ws, rfl, V2, V⟩ := VRs.cons_of V
    obtain ⟨v3, ws, rfl, V3, V⟩ := VRs.cons_of V
    obtain rfl := VRs.nil_of V
    obtain ⟨t3, rfl⟩ := V3
    have key : CG q (.int p) := by
      rcases h1 with rfl | rfl | rfl | rfl | rfl <;> rcases h2 with rfl | rfl | rfl
      · exact cg_6_255
      · exact cg_6_40
      · exact cg_6_252
      · exact cg_8_255
      · exact cg_8_40
      · exact cg_8_252
      · exact cg_11_255
      · exact cg_11_40
      · exact cg_11_252
      · exact cg_16_255
      · exact cg_16_40
      · exact cg_16_252
      · exact cg_12_255
      · exact cg_12_40
      · exact cg_12_252
    exact s__law_given_up_right e A hA _ rfl σg isT key E s ⟨[], [(i - 0).toNat]⟩ Q _ (start_rel H.base H.gens (mask1 (by omega))) (.cons V1 (.cons V2 (.cons (lane_vr h3.1 (by omega) rfl) .nil))) (cont_true H h4 C)
  · rename_i q i
    simp only [Bool.and_eq_true, Bool.or_eq_true, nbeq_iff] at h
    obtain ⟨h1, h3, h4⟩ := h
    have h3 := inR_ok h3
    obtain ⟨v1, ws, rfl, V1, V⟩ := VRs.cons_of V
    obtain ⟨v2, ws, rfl, V2, V⟩ := VRs.cons_of V
    obtain ⟨v3, ws, rfl, V3, V⟩ := VRs.cons_of V
    obtain rfl := VRs.nil_of V
    obtain ⟨t3, rfl⟩ := V3
    have key : CG q (.none) := by
      rcases h1 with rfl | rfl | rfl | rfl | rfl
      · exact cg_6_none
      · exact cg_8_none
      · exact cg_11_none
      · exact cg_16_none
      · exact cg_12_none
    exact s__law_given_up_right e A hA _ rfl σg isT key E s ⟨[], [(i - 0).toNat]⟩ Q _ (start_rel H.base H.gens (mask1 (by omega))) (.cons V1 (.cons V2 (.cons (lane_vr h3.1 (by omega) rfl) .nil))) (cont_true H h4 C)
  · cases h
theorem s_g_waits (e : Ev) : FnSimX (XX e) 10 g_waits 1325 3 := by
  intro A hA as hN σ k h E s W Q vs H V C
  unfold g_waits at h
  split at h
  · rename_i p i j
    simp only [Bool.and_eq_true, Bool.or_eq_true, decide_eq_true_eq] at h
    obtain ⟨h1, h2, h3, h4⟩ := h
    have h2 := inR_ok h2
    have h3 := inR_ok h3
    obtain ⟨v1, ws, rfl, V1, V⟩ := VRs.cons_of V
    obtain ⟨v2, ws, rfl, V2, V⟩ := VRs.cons_of V
    obtain ⟨v3, ws, rfl, V3, V⟩ := VRs.cons_of V
    obtain rfl := VRs.nil_of V
    obtain ⟨t2, rfl⟩ := V2
    obtain ⟨t3, rfl⟩ := V3
    have key : f__law_waits_right [.int p, .vec 0 (lanes 0 256), .vec 1 (lanes 0 90)] σw isT = true := by
      rcases h1 with rfl | rfl | rfl
      · exact cw_255
      · exact cw_40
      · exact cw_252
    exact s__law_waits_right e A hA _ rfl σw isT key E s ⟨[], [(i - 0).toNat, (j - 0).toNat]⟩ Q _ (start_rel H.base H.gens (mask2 (by omega) (by omega))) (.cons V1 (.cons (lane_vr h2.1 (by omega) rfl) (.cons (lane_vr h3.1 (by omega) rfl) .nil))) (cont_true H h4 C)
  · cases h
end Mine
end
section
namespace Mine
theorem forceN_eq (n : Nat) (k : Nat → Bool) : forceN n k = k n := by cases n <;> rfl
theorem forceI_eq (i : Int) (k : Int → Bool) : forceI i k = k i := by
  cases i with
  | ofNat n => exact forceN_eq n fun n => k (.ofNat n)
  | negSucc n => exact forceN_eq n fun n => k (.negSucc n)
theorem mulV_int {a b : Int} {σ : St} {k : K} (h : smallM a = true) : mulV (.int a) (.int b) σ k = k (.int (Int.mul a b)) σ := by
  show br (smallM a) (forceI (Int.mul a b) fun z => k (.int z) σ) _ = _
  rw [h, br_t, forceI_eq]
theorem addV_int {a b : Int} {σ : St} {k : K} : addV (.int a) (.int b) σ k = k (.int (addI a b)) σ := forceI_eq (addI a b) fun z => k (.int z) σ
theorem modV_int {a : Int} {m : Nat} {σ : St} {k : K} : modV (.int a) (.int (.ofNat (m + 1))) σ k = k (.int (modI a (.ofNat (m + 1)))) σ := forceI_eq (modI a (.ofNat (m + 1))) fun z => k (.int z) σ
theorem fdvV_int {a : Int} {m : Nat} {σ : St} {k : K} (h : m ≤ 1000000000) : fdvV (.int a) (.int (.ofNat (m + 1))) σ k = k (.int (Int.fdiv a (.ofNat (m + 1)))) σ := by
  show br (Nat.ble m 1000000000) (forceI (Int.fdiv a (.ofNat (m + 1))) fun z => k (.int z) σ) false = _
  rw [Nat.ble_eq.mpr h, br_t, forceI_eq]
noncomputable def tk1 : MX := sq (asg (tname 200) (bin modV (bin idxV (loc 198) (cst (.int 0))) (loc 199))) (sq (asg (tsub (loc 198) (cst (.int 0))) (bin fdvV (bin idxV (loc 198) (cst (.int 0))) (loc 199))) (ret (loc 200)))
noncomputable def tk2 : MX := sq (asg (tsub (loc 198) (cst (.int 1))) (bin modV (bin addV (bin mulV (bin idxV (loc 198) (cst (.int 1))) (cst (.int 39373))) (cst (.int 7))) (cst (.int 2147483647)))) (ret (bin modV (bin fdvV (bin modV (bin mulV (bin idxV (loc 198) (cst (.int 1))) (bin idxV (loc 198) (cst (.int 1)))) (cst (.int 2147483629))) (cst (.int 32))) (loc 199)))
noncomputable def tlo (m : Nat) : FL := .cons 198 (.own 0) (.cons 199 (.int (.ofNat (m + 1))) .nil)
theorem take_eq {a b : Int} {m : Nat} {l r : T} {nx : Nat} {lo : FL} {ms : MK} {k : K} : f__law_take [.own 0, .int (.ofNat (m + 1))] ⟨.node (.list [.int a, .int b]) l r, nx, lo, ms⟩ k =
    br (ltb 0 a) (tk1 ⟨.node (.list [.int a, .int b]) l r, nx, tlo m, ms⟩ (fun σ => tk2 σ (kBack lo k .none) no no (kBack lo k)) no no (kBack lo k)) (tk2 ⟨.node (.list [.int a, .int b]) l r, nx, tlo m, ms⟩ (kBack lo k .none) no no (kBack lo k)) := rfl
theorem take_pos {a b : Int} {m : Nat} {l r : T} {nx : Nat} {lo : FL} {ms : MK} {k : K} (h : 0 < a) (hm : m ≤ 1000000000) :
    f__law_take [.own 0, .int (.ofNat (m + 1))] ⟨.node (.list [.int a, .int b]) l r, nx, lo, ms⟩ k = k (.int (modI a (.ofNat (m + 1)))) ⟨.node (.list [.int (Int.fdiv a (.ofNat (m + 1))), .int b]) l r, nx, lo, ms⟩ := by
  rw [take_eq, ltb_iff.mpr h, br_t]
  show modV (.int a) (.int (.ofNat (m + 1))) ⟨.node (.list [.int a, .int b]) l r, nx, tlo m, ms⟩ _ = _
  rw [modV_int]
  show fdvV (.int a) (.int (.ofNat (m + 1))) ⟨.node (.list [.int a, .int b]) l r, nx, .cons 198 (.own 0) (.cons 199 (.int (.ofNat (m + 1))) (.cons 200 (.int (modI a (.ofNat (m + 1)))) .nil)), ms⟩ _ = _
  rw [fdvV_int hm]
  rfl
theorem take_zero {a b : Int} {m : Nat} {l r : T} {nx : Nat} {lo : FL} {ms : MK} {k : K} (h : ¬ 0 < a) (hb : smallM b = true) (hz : ∀ b', b' = modI (addI (Int.mul b 39373) 7) 2147483647 → smallM b' = true) :
    f__law_take [.own 0, .int (.ofNat (m + 1))] ⟨.node (.list [.int a, .int b]) l r, nx, lo, ms⟩ k = (fun b' => k (.int (modI (Int.fdiv (modI (Int.mul b' b') 2147483629) 32) (.ofNat (m + 1)))) ⟨.node (.list [.int a, .int b']) l r, nx, lo, ms⟩) (modI (addI (Int.mul b 39373) 7) 2147483647) := by
  have h0 : ltb 0 a = false := by cases q : ltb 0 a with
    | false => rfl
    | true => exact absurd (ltb_iff.mp q) h
  rw [take_eq, h0, br_f]
  show mulV (.int b) (.int 39373) ⟨.node (.list [.int a, .int b]) l r, nx, tlo m, ms⟩ _ = _
  rw [mulV_int hb]
  show addV (.int (Int.mul b 39373)) (.int 7) ⟨.node (.list [.int a, .int b]) l r, nx, tlo m, ms⟩ _ = _
  rw [addV_int]
  show modV (.int (addI (Int.mul b 39373) 7)) (.int (.ofNat (2147483646 + 1))) ⟨.node (.list [.int a, .int b]) l r, nx, tlo m, ms⟩ _ = _
  rw [modV_int]
  have hz := hz _ rfl
  change smallM (modI (addI (Int.mul b 39373) 7) (.ofNat (2147483646 + 1))) = true at hz
  show _ = k (.int (modI (Int.fdiv (modI (Int.mul (modI (addI (Int.mul b 39373) 7) (.ofNat (2147483646 + 1))) (modI (addI (Int.mul b 39373) 7) (.ofNat (2147483646 + 1)))) 2147483629) 32) (.ofNat (m + 1)))) ⟨.node (.list [.int a, .int (modI (addI (Int.mul b 39373) 7) (.ofNat (2147483646 + 1)))]) l r, nx, lo, ms⟩
  generalize modI (addI (Int.mul b 39373) 7) (.ofNat (2147483646 + 1)) = z at hz ⊢
  show mulV (.int z) (.int z) ⟨.node (.list [.int a, .int z]) l r, nx, tlo m, ms⟩ _ = _
  rw [mulV_int hz]
  show modV (.int (Int.mul z z)) (.int (.ofNat (2147483628 + 1))) ⟨.node (.list [.int a, .int z]) l r, nx, tlo m, ms⟩ _ = _
  rw [modV_int]
  show fdvV (.int (modI (Int.mul z z) (.ofNat (2147483628 + 1)))) (.int (.ofNat (31 + 1))) ⟨.node (.list [.int a, .int z]) l r, nx, tlo m, ms⟩ _ = _
  rw [fdvV_int (by decide)]
  show modV (.int (Int.fdiv (modI (Int.mul z z) (.ofNat (2147483628 + 1))) (.ofNat (31 + 1)))) (.int (.ofNat (m + 1))) ⟨.node (.list [.int a, .int z]) l r, nx, tlo m, ms⟩ _ = _
  rw [modV_int]
  rfl
theorem modI_rng {a : Int} {m : Nat} (h : 0 ≤ a) : 0 ≤ modI a (.ofNat (m + 1)) ∧ modI a (.ofNat (m + 1)) < (m : Int) + 1 := by
  obtain ⟨n, rfl⟩ := Int.eq_ofNat_of_zero_le h
  show 0 ≤ Int.ofNat (Nat.mod n (m + 1)) ∧ Int.ofNat (Nat.mod n (m + 1)) < _
  have : n % (m + 1) < m + 1 := Nat.mod_lt _ (by omega)
  have e : Int.ofNat (Nat.mod n (m + 1)) = ((n % (m + 1) : Nat) : Int) := rfl
  rw [e]
  omega
theorem addI_nn {a b : Int} (ha : 0 ≤ a) (hb : 0 ≤ b) : addI a b = a + b := by
  obtain ⟨n, rfl⟩ := Int.eq_ofNat_of_zero_le ha
  obtain ⟨m, rfl⟩ := Int.eq_ofNat_of_zero_le hb
  rfl
theorem fdiv_nn {a : Int} {m : Nat} (h : 0 ≤ a) : 0 ≤ Int.fdiv a (.ofNat (m + 1)) := Int.fdiv_nonneg h (by show (0 : Int) ≤ ((m + 1 : Nat) : Int); omega)
theorem mul_nn {a b : Int} (ha : 0 ≤ a) (hb : 0 ≤ b) : 0 ≤ Int.mul a b := Int.mul_nonneg ha hb
theorem smallM_of {b : Int} (h0 : 0 ≤ b) (h1 : b < 2147483647) : smallM b = true := by
  obtain ⟨n, rfl⟩ := Int.eq_ofNat_of_zero_le h0
  exact Nat.ble_eq.mpr (by omega)
noncomputable def InB (a b : Int) : Prop := 0 ≤ a ∧ 0 ≤ b ∧ b < 2147483647
theorem take_spec {a b : Int} (m : Nat) (h : InB a b) (hm : m ≤ 1000000000) : ∃ d a' b', 0 ≤ d ∧ d < (m : Int) + 1 ∧ InB a' b' ∧ ∀ (l r : T) (nx : Nat) (lo : FL) (ms : MK) (k : K),
    f__law_take [.own 0, .int (.ofNat (m + 1))] ⟨.node (.list [.int a, .int b]) l r, nx, lo, ms⟩ k = k (.int d) ⟨.node (.list [.int a', .int b']) l r, nx, lo, ms⟩ := by
  obtain ⟨h1, h2, h3⟩ := h
  by_cases q : 0 < a
  · have z := modI_rng (m := m) h1
    exact ⟨_, _, _, z.1, z.2, ⟨fdiv_nn h1, h2, h3⟩, fun l r nx lo ms k => take_pos q hm⟩
  · have e : (0 : Int) ≤ addI (Int.mul b 39373) 7 := by rw [addI_nn (mul_nn h2 (by decide)) (by decide)]; have := mul_nn h2 (b := 39373) (by decide); omega
    have z := modI_rng (m := 2147483646) e
    have z1 : InB a (modI (addI (Int.mul b 39373) 7) 2147483647) := ⟨h1, z.1, by have := z.2; exact Int.lt_of_lt_of_le this (by decide)⟩
    have w := modI_rng (m := m) (fdiv_nn (m := 31) (modI_rng (m := 2147483628) (mul_nn z1.2.1 z1.2.1)).1)
    exact ⟨_, _, _, w.1, w.2, z1, fun l r nx lo ms k => take_zero q (smallM_of h2 h3) fun b' e => e ▸ smallM_of z1.2.1 z1.2.2⟩
noncomputable def oneM (take : MF) : MF := fn [198, 201] [] (ret (bin idxV (loc 201) (callF take (cons (loc 198) (cons (callB b_len (cons (loc 201) nil)) nil)))))
noncomputable def lawM (take gG gW gT : MF) : MX := (sq (asg (ttupR [(tname 64), (tname 23)]) (mkTup (cons (callF take (cons (loc 198) (cons (cst (.int 256)) nil))) (cons (callF (oneM take) (cons (loc 198) (cons (mkList (cons (cst (.int 255)) (cons (cst (.int 40)) (cons (cst (.int 252)) nil)))) nil))) nil)))) (sq (for_ (tname 22) (mkList (cons (cst (.str 6)) (cons (cst (.str 8)) (cons (cst (.str 11)) (cons (cst (.str 16)) (cons (cst (.str 12)) nil)))))) (ite (orB (notB (truth (callF gG (cons (loc 22) (cons (loc 64) (cons (loc 23) nil)))))) (notB (truth (callF gG (cons (loc 22) (cons (cst .none) (cons (loc 23) nil))))))) (ret (cst .ff)) done)) (sq (ite (notB (truth (callF gW (cons (loc 64) (cons (loc 23) (cons (callF take (cons (loc 198) (cons (cst (.int 90)) nil))) nil)))))) (ret (cst .ff)) done) (sq (asg (ttupR [(tname 153), (tname 109)]) (mkTup (cons (bin addV (cst (.int 4)) (callF take (cons (loc 198) (cons (cst (.int 17)) nil)))) (cons (val (rel eqV (callF take (cons (loc 198) (cons (cst (.int 2)) nil))) (cst (.int 0)))) nil)))) (ret (callF gT (cons (loc 109) (cons (loc 153) (cons (bin addV (cst (.int 2)) (callF take (cons (loc 198) (cons (cst (.int 3)) nil)))) (cons (callF take (cons (loc 198) (cons (cst (.int 3)) nil))) nil))))))))))
noncomputable def σl (a b : Int) : St := ⟨.node (.list [.int a, .int b]) .nil .nil, 1, .cons 198 (.own 0) .nil, .nil⟩
theorem law2_spec {take gG gW gT : MF} {a b : Int} (I : InB a b)
    (hT : ∀ (m : Nat) (a b : Int), InB a b → m ≤ 1000000000 → ∃ d a' b', 0 ≤ d ∧ d < (m : Int) + 1 ∧ InB a' b' ∧ ∀ (l r : T) (nx : Nat) (lo : FL) (ms : MK) (k : K), take [.own 0, .int (.ofNat (m + 1))] ⟨.node (.list [.int a, .int b]) l r, nx, lo, ms⟩ k = k (.int d) ⟨.node (.list [.int a', .int b']) l r, nx, lo, ms⟩)
    (hG : ∀ (q : Nat) (p i : Int) (σ : St) (k : K), (q = 6 ∨ q = 8 ∨ q = 11 ∨ q = 16 ∨ q = 12) → (p = 255 ∨ p = 40 ∨ p = 252) → 0 ≤ i → i < 256 → gG [.str q, .int p, .int i] σ k = k .tt σ)
    (hN : ∀ (q : Nat) (i : Int) (σ : St) (k : K), (q = 6 ∨ q = 8 ∨ q = 11 ∨ q = 16 ∨ q = 12) → 0 ≤ i → i < 256 → gG [.str q, .none, .int i] σ k = k .tt σ)
    (hW : ∀ (p i j : Int) (σ : St) (k : K), (p = 255 ∨ p = 40 ∨ p = 252) → 0 ≤ i → i < 256 → 0 ≤ j → j < 90 → gW [.int p, .int i, .int j] σ k = k .tt σ)
    (hS : ∀ (x y z : Int) (c : Bool) (σ : St) (k : K), 4 ≤ x → x < 21 → 2 ≤ y → y < 5 → 0 ≤ z → z < 3 → gT [.int x, (if c then .tt else .ff), .int y, .int z] σ k = k .tt σ) : lawM take gG gW gT (σl a b) no no no isT = true := by
  obtain ⟨d, a, b, d0, d1, I, e⟩ := hT 255 a b I (by decide)
  show take [.own 0, .int (.ofNat (255 + 1))] _ _ = true
  rw [σl, e]
  obtain ⟨f, a, b, f0, f1, I, e⟩ := hT 2 a b I (by decide)
  show take [.own 0, .int (.ofNat (2 + 1))] _ _ = true
  rw [e]
  have hf : f = 0 ∨ f = 1 ∨ f = 2 := by omega
  have hp : ∃ p : Int, (p = 255 ∨ p = 40 ∨ p = 252) ∧ ∀ (σ : St) (k : K), idxL [.int 255, .int 40, .int 252] f (kV k σ) = k (.int p) σ := by
    rcases hf with rfl | rfl | rfl
    · exact ⟨255, .inl rfl, fun _ _ => rfl⟩
    · exact ⟨40, .inr (.inl rfl), fun _ _ => rfl⟩
    · exact ⟨252, .inr (.inr rfl), fun _ _ => rfl⟩
  obtain ⟨p, hp, ep⟩ := hp
  have i0 : 0 ≤ d := d0
  have i1 : d < 256 := by omega
  show idxL [.int 255, .int 40, .int 252] f (kV _ _) = true
  rw [ep]
  show gG [.str 6, .int p, .int d] _ _ = true
  rw [hG 6 p d _ _ (by decide) hp i0 i1]
  show gG [.str 6, .none, .int d] _ _ = true
  rw [hN 6 d _ _ (by decide) i0 i1]
  show gG [.str 8, .int p, .int d] _ _ = true
  rw [hG 8 p d _ _ (by decide) hp i0 i1]
  show gG [.str 8, .none, .int d] _ _ = true
  rw [hN 8 d _ _ (by decide) i0 i1]
  show gG [.str 11, .int p, .int d] _ _ = true
  rw [hG 11 p d _ _ (by decide) hp i0 i1]
  show gG [.str 11, .none, .int d] _ _ = true
  rw [hN 11 d _ _ (by decide) i0 i1]
  show gG [.str 16, .int p, .int d] _ _ = true
  rw [hG 16 p d _ _ (by decide) hp i0 i1]
  show gG [.str 16, .none, .int d] _ _ = true
  rw [hN 16 d _ _ (by decide) i0 i1]
  show gG [.str 12, .int p, .int d] _ _ = true
  rw [hG 12 p d _ _ (by decide) hp i0 i1]
  show gG [.str 12, .none, .int d] _ _ = true
  rw [hN 12 d _ _ (by decide) i0 i1]
  obtain ⟨j, a, b, j0, j1, I, e⟩ := hT 89 a b I (by decide)
  show take [.own 0, .int (.ofNat (89 + 1))] _ _ = true
  rw [e]
  show gW [.int p, .int d, .int j] _ _ = true
  rw [hW p d j _ _ hp i0 i1 j0 (by omega)]
  obtain ⟨x, a, b, x0, x1, I, e⟩ := hT 16 a b I (by decide)
  show take [.own 0, .int (.ofNat (16 + 1))] _ _ = true
  rw [e]
  show addV (.int 4) (.int x) _ _ = true
  rw [addV_int, addI_nn (by decide) x0]
  obtain ⟨c, a, b, c0, c1, I, e⟩ := hT 1 a b I (by decide)
  show take [.own 0, .int (.ofNat (1 + 1))] _ _ = true
  rw [e]
  have hc : ∃ u : Bool, ∀ (σ : St) (k : K), eqV (.int c) (.int 0) σ (kB k) = k (if u then .tt else .ff) σ := by
    have : c = 0 ∨ c = 1 := by omega
    rcases this with rfl | rfl
    · exact ⟨true, fun _ _ => rfl⟩
    · exact ⟨false, fun _ _ => rfl⟩
  obtain ⟨u, hu⟩ := hc
  show eqV (.int c) (.int 0) _ (kB _) = true
  rw [hu]
  obtain ⟨y, a, b, y0, y1, I, e⟩ := hT 2 a b I (by decide)
  show take [.own 0, .int (.ofNat (2 + 1))] _ _ = true
  rw [e]
  show addV (.int 2) (.int y) _ _ = true
  rw [addV_int, addI_nn (by decide) y0]
  obtain ⟨z, a, b, z0, z1, I, e⟩ := hT 2 a b I (by decide)
  show take [.own 0, .int (.ofNat (2 + 1))] _ _ = true
  rw [e]
  show gT [.int (4 + x), (if u then .tt else .ff), .int (2 + y), .int z] _ _ = true
  rw [hS (4 + x) (2 + y) z u _ _ (by omega) (by omega) (by omega) (by omega) z0 (by omega)]
  rfl
end Mine
end
section
open PySem PySem.W PySem.Calls PyProof.Rows
namespace Mine
noncomputable def bodyL (fd : FuncData) : List Stmt := match fd.body with | .stmts l => l | _ => []
noncomputable def fp_t1 : MB := (orB (notB (truth (callF g_tries (cons (cst (.int 4)) (cons (cst .tt) (cons (cst (.int 2)) (cons (cst (.int 0)) nil))))))) (notB (truth (callF g_tries (cons (cst (.int 20)) (cons (cst .ff) (cons (cst (.int 2)) (cons (cst (.int 1)) nil))))))))
noncomputable def fp_law2 : MX := (sq (asg (ttupR [(tname 64), (tname 23)]) (mkTup (cons (callF f__law_take (cons (loc 198) (cons (cst (.int 256)) nil))) (cons (callF f__law_one (cons (loc 198) (cons (mkList (cons (cst (.int 255)) (cons (cst (.int 40)) (cons (cst (.int 252)) nil)))) nil))) nil)))) (sq (for_ (tname 22) (mkList (cons (cst (.str 6)) (cons (cst (.str 8)) (cons (cst (.str 11)) (cons (cst (.str 16)) (cons (cst (.str 12)) nil)))))) (ite (orB (notB (truth (callF g_given (cons (loc 22) (cons (loc 64) (cons (loc 23) nil)))))) (notB (truth (callF g_given (cons (loc 22) (cons (cst .none) (cons (loc 23) nil))))))) (ret (cst .ff)) done)) (sq (ite (notB (truth (callF g_waits (cons (loc 64) (cons (loc 23) (cons (callF f__law_take (cons (loc 198) (cons (cst (.int 90)) nil))) nil)))))) (ret (cst .ff)) done) (sq (asg (ttupR [(tname 153), (tname 109)]) (mkTup (cons (bin addV (cst (.int 4)) (callF f__law_take (cons (loc 198) (cons (cst (.int 17)) nil)))) (cons (val (rel eqV (callF f__law_take (cons (loc 198) (cons (cst (.int 2)) nil))) (cst (.int 0)))) nil)))) (ret (callF g_tries (cons (loc 109) (cons (loc 153) (cons (bin addV (cst (.int 2)) (callF f__law_take (cons (loc 198) (cons (cst (.int 3)) nil)))) (cons (callF f__law_take (cons (loc 198) (cons (cst (.int 3)) nil))) nil))))))))))
noncomputable def fp_pool : MX := (sq (asg (tname 203) (callB b_max (cons (loc 202) (cons (bin subV (neg (cst (.int 1))) (loc 202)) nil)))) (sq (asg (tname 205) (bin modV (bin mulV (bin addV (bin addV (bin addV (bin modV (loc 203) (cst (.int 2147483629))) (bin mulV (bin mulV (cst (.int 7919)) (loc 204)) (loc 204))) (bin mulV (cst (.int 31)) (loc 204))) (cst (.int 17))) (cst (.int 48271))) (cst (.int 2147483647)))) (ret (mkList (cons (bin mulV (loc 203) (callB b_int (cons (val (rel (irel geb) (loc 203) (bin powV (cst (.int 10)) (cst (.int 18))))) nil))) (cons (loc 205) nil))))))
noncomputable def test1 : Expr := match (bodyL D1344).headD (.Pass p0) with | .If t _ _ _ => t | _ => .Constant .none 0 p0
theorem st_law1 (e : Ev) : SimT (XX e) 12 D1344.scope.names fp_t1 test1 := by
  have y__law_tries_right : D1344.scope.names.lookup (.ofString "_law_tries_right") = some .globalImplicit := by kernel_rfl
  exact (SimT.or (SimT.not (SimT.truth (SimE.callF g__law_tries_right y__law_tries_right (by kernel_rfl) kp_1337 (fun _ => rfl) (s_g_tries e) (by decide) (SimL.cons (fun _ => rfl) SimE.int (SimL.cons (fun _ => rfl) SimE.tt (SimL.cons (fun _ => rfl) SimE.int (SimL.cons (fun _ => rfl) SimE.int SimL.nil))))) (fun _ _ => rfl))) (SimT.or1 (SimT.not (SimT.truth (SimE.callF g__law_tries_right y__law_tries_right (by kernel_rfl) kp_1337 (fun _ => rfl) (s_g_tries e) (by decide) (SimL.cons (fun _ => rfl) SimE.int (SimL.cons (fun _ => rfl) SimE.ff (SimL.cons (fun _ => rfl) SimE.int (SimL.cons (fun _ => rfl) SimE.int SimL.nil))))) (fun _ _ => rfl)))))
theorem sp_law2 (e : Ev) : SimBX (XX e) 12 D1344.scope.names fp_law2 (List.drop 2 (bodyL D1344)) := by
  have l_is_closing : D1344.scope.names.lookup (.ofString "is_closing") = some .local := by kernel_rfl
  have l_iss : D1344.scope.names.lookup (.ofString "iss") = some .local := by kernel_rfl
  have l_many : D1344.scope.names.lookup (.ofString "many") = some .local := by kernel_rfl
  have l_place : D1344.scope.names.lookup (.ofString "place") = some .local := by kernel_rfl
  have l_source : D1344.scope.names.lookup (.ofString "source") = some .local := by kernel_rfl
  have l_state : D1344.scope.names.lookup (.ofString "state") = some .local := by kernel_rfl
  have y__law_given_up_right : D1344.scope.names.lookup (.ofString "_law_given_up_right") = some .globalImplicit := by kernel_rfl
  have y__law_one : D1344.scope.names.lookup (.ofString "_law_one") = some .globalImplicit := by kernel_rfl
  have y__law_take : D1344.scope.names.lookup (.ofString "_law_take") = some .globalImplicit := by kernel_rfl
  have y__law_tries_right : D1344.scope.names.lookup (.ofString "_law_tries_right") = some .globalImplicit := by kernel_rfl
  have y__law_waits_right : D1344.scope.names.lookup (.ofString "_law_waits_right") = some .globalImplicit := by kernel_rfl
  exact (SimBX.cons (SimS.x (SimS.asgR (ns := [(23, .ofString "iss"), (64, .ofString "place")]) (by intro p hp; simp only [List.mem_cons, List.not_mem_nil, or_false] at hp; rcases hp with rfl | rfl <;> first | exact ⟨n_23, l_iss⟩ | exact ⟨n_64, l_place⟩) (fun _ => by kernel_rfl) (swaps_ok2 l_iss l_place (by kernel_rfl) rfl rfl (by kernel_rfl) (by kernel_rfl) (by kernel_rfl)) (SimE.tup (SimL.cons (fun _ => rfl) (SimE.callF g__law_take y__law_take (by kernel_rfl) kp_1294 (fun _ => rfl) (s__law_take e) (by decide) (SimL.cons (fun _ => rfl) (SimE.loc n_198 l_source (by kernel_rfl)) (SimL.cons (fun _ => rfl) SimE.int SimL.nil))) (SimL.cons (fun _ => rfl) (SimE.callF g__law_one y__law_one (by kernel_rfl) kp_1301 (fun _ => rfl) (s__law_one e) (by decide) (SimL.cons (fun _ => rfl) (SimE.loc n_198 l_source (by kernel_rfl)) (SimL.cons (fun _ => rfl) (SimE.list (SimL.cons (fun _ => rfl) SimE.int (SimL.cons (fun _ => rfl) SimE.int (SimL.cons (fun _ => rfl) SimE.int SimL.nil)))) SimL.nil))) SimL.nil))))) (SimBX.cons (SimSX.for_ (fun _ _ => rfl) (fun _ _ => rfl) (SimG.name n_22 l_state) (SimE.list (SimL.cons (fun _ => rfl) (SimE.str t_6) (SimL.cons (fun _ => rfl) (SimE.str t_8) (SimL.cons (fun _ => rfl) (SimE.str t_11) (SimL.cons (fun _ => rfl) (SimE.str t_16) (SimL.cons (fun _ => rfl) (SimE.str t_12) SimL.nil)))))) (SimBX.one (SimSX.ite (SimTX.or (SimTX.not (SimTX.truth (SimEX.callF g__law_given_up_right y__law_given_up_right (by kernel_rfl) kp_1318 (fun _ => rfl) (s_g_given e) (by decide) (SimL.cons (fun _ => rfl) (SimE.loc n_22 l_state (by kernel_rfl)) (SimL.cons (fun _ => rfl) (SimE.loc n_64 l_place (by kernel_rfl)) (SimL.cons (fun _ => rfl) (SimE.loc n_23 l_iss (by kernel_rfl)) SimL.nil)))) (fun _ _ => rfl))) (SimTX.or1 (SimTX.not (SimTX.truth (SimEX.callF g__law_given_up_right y__law_given_up_right (by kernel_rfl) kp_1318 (fun _ => rfl) (s_g_given e) (by decide) (SimL.cons (fun _ => rfl) (SimE.loc n_22 l_state (by kernel_rfl)) (SimL.cons (fun _ => rfl) SimE.none' (SimL.cons (fun _ => rfl) (SimE.loc n_23 l_iss (by kernel_rfl)) SimL.nil)))) (fun _ _ => rfl))))) (SimB.x (SimB.one (SimS.ret SimE.ff))) (SimB.x SimB.nil)))) (SimBX.cons (SimSX.ite (SimTX.not (SimTX.truth (SimEX.callF g__law_waits_right y__law_waits_right (by kernel_rfl) kp_1325 (fun _ => rfl) (s_g_waits e) (by decide) (SimL.cons (fun _ => rfl) (SimE.loc n_64 l_place (by kernel_rfl)) (SimL.cons (fun _ => rfl) (SimE.loc n_23 l_iss (by kernel_rfl)) (SimL.cons (fun _ => rfl) (SimE.callF g__law_take y__law_take (by kernel_rfl) kp_1294 (fun _ => rfl) (s__law_take e) (by decide) (SimL.cons (fun _ => rfl) (SimE.loc n_198 l_source (by kernel_rfl)) (SimL.cons (fun _ => rfl) SimE.int SimL.nil))) SimL.nil)))) (fun _ _ => rfl))) (SimB.x (SimB.one (SimS.ret SimE.ff))) (SimB.x SimB.nil)) (SimBX.cons (SimS.x (SimS.asgR (ns := [(109, .ofString "many"), (153, .ofString "is_closing")]) (by intro p hp; simp only [List.mem_cons, List.not_mem_nil, or_false] at hp; rcases hp with rfl | rfl <;> first | exact ⟨n_109, l_many⟩ | exact ⟨n_153, l_is_closing⟩) (fun _ => by kernel_rfl) (swaps_ok2 l_many l_is_closing (by kernel_rfl) rfl rfl (by kernel_rfl) (by kernel_rfl) (by kernel_rfl)) (SimE.tup (SimL.cons (fun _ => rfl) (SimE.bin op_add SimE.int (SimE.callF g__law_take y__law_take (by kernel_rfl) kp_1294 (fun _ => rfl) (s__law_take e) (by decide) (SimL.cons (fun _ => rfl) (SimE.loc n_198 l_source (by kernel_rfl)) (SimL.cons (fun _ => rfl) SimE.int SimL.nil)))) (SimL.cons (fun _ => rfl) (SimE.val (SimV.rel op_eq rfl (SimE.callF g__law_take y__law_take (by kernel_rfl) kp_1294 (fun _ => rfl) (s__law_take e) (by decide) (SimL.cons (fun _ => rfl) (SimE.loc n_198 l_source (by kernel_rfl)) (SimL.cons (fun _ => rfl) SimE.int SimL.nil))) SimE.int)) SimL.nil))))) (SimBX.one (SimS.x (SimS.ret (SimE.callF g__law_tries_right y__law_tries_right (by kernel_rfl) kp_1337 (fun _ => rfl) (s_g_tries e) (by decide) (SimL.cons (fun _ => rfl) (SimE.loc n_109 l_many (by kernel_rfl)) (SimL.cons (fun _ => rfl) (SimE.loc n_153 l_is_closing (by kernel_rfl)) (SimL.cons (fun _ => rfl) (SimE.bin op_add SimE.int (SimE.callF g__law_take y__law_take (by kernel_rfl) kp_1294 (fun _ => rfl) (s__law_take e) (by decide) (SimL.cons (fun _ => rfl) (SimE.loc n_198 l_source (by kernel_rfl)) (SimL.cons (fun _ => rfl) SimE.int SimL.nil)))) (SimL.cons (fun _ => rfl) (SimE.callF g__law_take y__law_take (by kernel_rfl) kp_1294 (fun _ => rfl) (s__law_take e) (by decide) (SimL.cons (fun _ => rfl) (SimE.loc n_198 l_source (by kernel_rfl)) (SimL.cons (fun _ => rfl) SimE.int SimL.nil))) SimL.nil))))))))))))
theorem sp_pool (e : Ev) : SimB (XX e) 1 D1287.scope.names fp_pool (List.drop 1 (bodyL D1287)) := by
  have l_cell : D1287.scope.names.lookup (.ofString "cell") = some .local := by kernel_rfl
  have l_great : D1287.scope.names.lookup (.ofString "great") = some .local := by kernel_rfl
  have l_k : D1287.scope.names.lookup (.ofString "k") = some .local := by kernel_rfl
  have l_mixed : D1287.scope.names.lookup (.ofString "mixed") = some .local := by kernel_rfl
  have y_int : D1287.scope.names.lookup (.ofString "int") = some .globalImplicit := by kernel_rfl
  have y_max : D1287.scope.names.lookup (.ofString "max") = some .globalImplicit := by kernel_rfl
  exact (SimB.cons (SimS.asgName n_203 l_great (fun _ => by kernel_rfl) (SimE.callB gn_max gb_max (by intro _ q; cases q) y_max (by kernel_rfl) (fun _ => rfl) b_max_ok (SimL.cons (fun _ => rfl) (SimE.loc n_202 l_cell (by kernel_rfl)) (SimL.cons (fun _ => rfl) (SimE.bin op_sub (SimE.neg SimE.int) (SimE.loc n_202 l_cell (by kernel_rfl))) SimL.nil)))) (SimB.cons (SimS.asgName n_205 l_mixed (fun _ => by kernel_rfl) (SimE.bin op_mod (SimE.bin op_mul (SimE.bin op_add (SimE.bin op_add (SimE.bin op_add (SimE.bin op_mod (SimE.loc n_203 l_great (by kernel_rfl)) SimE.int) (SimE.bin op_mul (SimE.bin op_mul SimE.int (SimE.loc n_204 l_k (by kernel_rfl))) (SimE.loc n_204 l_k (by kernel_rfl)))) (SimE.bin op_mul SimE.int (SimE.loc n_204 l_k (by kernel_rfl)))) SimE.int) SimE.int) SimE.int)) (SimB.one (SimS.ret (SimE.list (SimL.cons (fun _ => rfl) (SimE.bin op_mul (SimE.loc n_203 l_great (by kernel_rfl)) (SimE.callB gn_int gb_int (by intro _ q; cases q) y_int (by kernel_rfl) (fun _ => rfl) b_int_ok (SimL.cons (fun _ => rfl) (SimE.val (SimV.rel op_ge rfl (SimE.loc n_203 l_great (by kernel_rfl)) (SimE.bin op_pow SimE.int SimE.int))) SimL.nil))) (SimL.cons (fun _ => rfl) (SimE.loc n_205 l_mixed (by kernel_rfl)) SimL.nil)))))))
noncomputable def plo (c : Int) : FL := .cons 204 (.int 0) (.cons 202 (.int c) .nil)
noncomputable def σp (c : Int) : St := ⟨.nil, 0, plo c, .nil⟩
theorem mulV_bit {a : Int} {u : Bool} {σ : St} {k : K} : mulV (.int a) (.int (if u then 1 else 0)) σ k = k (.int (Int.mul a (if u then 1 else 0))) σ := by
  have e : mulV (.int a) (.int (if u then 1 else 0)) σ k = br (smallM a) (forceI (Int.mul a (if u then 1 else 0)) fun z => k (.int z) σ) (br (smallI (if u then 1 else 0)) (forceI (Int.mul a (if u then 1 else 0)) fun z => k (.int z) σ) false) := rfl
  have s : smallI (if u then 1 else 0) = true := by cases u <;> rfl
  rw [e, s, br_t, forceI_eq]
  cases smallM a <;> rfl
theorem pool_spec (c : Int) : ∃ a b lo', InB a b ∧ ∀ (n br co : KS) (re : K), fp_pool (σp c) n br co re = re (.own 0) ⟨.node (.list [.int a, .int b]) .nil .nil, 1, lo', .nil⟩ := by
  have hg : ∃ g : Int, 0 ≤ g ∧ ∀ (σ : St) (k : K), maxV (.int c) (.int (Int.sub (-1) c)) σ k = k (.int g) σ := by
    by_cases q : Int.sub (-1) c > c
    · refine ⟨Int.sub (-1) c, ?_, fun σ k => ?_⟩
      · have : Int.sub (-1) c = -1 - c := rfl
        omega
      · show Mine.br (ltb c (Int.sub (-1) c)) (k (.int (Int.sub (-1) c)) σ) (k (.int c) σ) = _
        rw [ltb_iff.mpr q, br_t]
    · refine ⟨c, ?_, fun σ k => ?_⟩
      · have : Int.sub (-1) c = -1 - c := rfl
        omega
      · show Mine.br (ltb c (Int.sub (-1) c)) (k (.int (Int.sub (-1) c)) σ) (k (.int c) σ) = _
        have : ltb c (Int.sub (-1) c) = false := by cases z : ltb c (Int.sub (-1) c) with
          | false => rfl
          | true => exact absurd (ltb_iff.mp z) q
        rw [this, br_f]
  obtain ⟨g, g0, hg⟩ := hg
  have m0 := modI_rng (a := g) (m := 2147483628) g0
  have e1 : ∃ s : Int, 0 ≤ s ∧ s < 2147483646 ∧ s = addI (addI (addI (modI g (.ofNat (2147483628 + 1))) 0) 0) 17 := by
    have q0 : addI (modI g (.ofNat (2147483628 + 1))) 0 = modI g (.ofNat (2147483628 + 1)) := by rw [addI_nn m0.1 (by decide)]; omega
    refine ⟨_, ?_, ?_, rfl⟩ <;> rw [q0, q0, addI_nn m0.1 (by decide)] <;> omega
  obtain ⟨s, s0, s1, es⟩ := e1
  have m1 := modI_rng (a := Int.mul s 48271) (m := 2147483646) (mul_nn s0 (by decide))
  obtain ⟨u, hu⟩ : ∃ u, geb g (.ofNat 1000000000000000000) = u := ⟨_, rfl⟩
  have b1 : InB (Int.mul g (if u then 1 else 0)) (modI (Int.mul s 48271) (.ofNat (2147483646 + 1))) := ⟨mul_nn g0 (by cases u <;> decide), m1.1, Int.lt_of_lt_of_le m1.2 (by decide)⟩
  refine ⟨_, _, .cons 204 (.int 0) (.cons 202 (.int c) (.cons 203 (.int g) (.cons 205 (.int (modI (Int.mul s 48271) (.ofNat (2147483646 + 1)))) .nil))), b1, ?_⟩
  intro n br co re
  show forceI (Int.sub (-1) c) (fun z => maxV (.int c) (.int z) (σp c) _) = _
  rw [forceI_eq, hg]
  show modV (.int g) (.int (.ofNat (2147483628 + 1))) _ _ = _
  rw [modV_int]
  show addV (.int (modI g (.ofNat (2147483628 + 1)))) (.int 0) _ _ = _
  rw [addV_int]
  show addV (.int (addI (modI g (.ofNat (2147483628 + 1))) 0)) (.int 0) _ _ = _
  rw [addV_int]
  show addV (.int (addI (addI (modI g (.ofNat (2147483628 + 1))) 0) 0)) (.int 17) _ _ = _
  rw [addV_int, ← es]
  show mulV (.int s) (.int 48271) _ _ = _
  rw [mulV_int (smallM_of s0 (by omega))]
  show modV (.int (Int.mul s 48271)) (.int (.ofNat (2147483646 + 1))) _ _ = _
  rw [modV_int]
  show Mine.br (geb g (.ofNat 1000000000000000000)) _ _ = _
  rw [hu]
  cases u with
  | true =>
    show mulV (.int g) (.int (if true then 1 else 0)) _ _ = _
    rw [mulV_bit]
    rfl
  | false =>
    show mulV (.int g) (.int (if false then 1 else 0)) _ _ = _
    rw [mulV_bit]
    rfl
theorem str_loc {X : Cx} {sc : List (Str × NameKind)} {env : Env} {L : Addr} {A : Around} {E : Value → Shared → Prop} {s : Shared} {Q : Value → Shared → Prop} {x : Str} {v : Value} {m : Str → Option Value} {pos : Pos} (hE : EnvOk X sc env L) (hl : sc.lookup x = some .local) (hd : (x == ("__debug__" : Str)) = false)
    (hn : s.heap.Ns L m) (hm : m x = some v) (q : Q v s) : wpAny (model X.prog X.w) A (eval (.Name x pos) env) Q E s :=
  wpAny_Name (wpAny_loadName_local hE.kind (by rw [Env.kindOf, hE.names]; exact hl) (hE.loc ▸ hn) hm q) hd
theorem cell_ok {X : Cx} {n : Nat} {sc : List (Str × NameKind)} {env : Env} {L : Addr} {A : Around} {E : Value → Shared → Prop} {s : Shared} {W : Wd} {σ : St} {Q : Value → Shared → Prop} {b : Addr} {items : Array Value} {z : Nat} {m : Str → Option Value} {t : Tok} {p1 p2 p3 p4 p5 p6 p7 p8 p9 p10 : Pos} {kk : Nat} {xk xl xs : Str}
    (hE : EnvOk X sc env L) (lk : sc.lookup xk = some .local) (dk : (xk == ("__debug__" : Str)) = false) (ls : sc.lookup xs = some .local) (ds : (xs == ("__debug__" : Str)) = false) (ll : sc.lookup xl = some .globalImplicit) (dl : (xl == ("__debug__" : Str)) = false)
    (hg : nsIn X.F X.G xl = some none) (hb : nsIn X.F X.B xl = some (some (.builtin "len")))
    {ol : Obj} (ho : s.heap.get? b = some ol) (hc : ol.cls = .type "list") (hd : ol.data = .seq items z) (hi : ∀ v, items[0]? = some v → ∃ i u, v = .int i u) (hz : items.size ≤ 10000)
    (H : HRel X W σ s) (hn : s.heap.Ns L m) (hm1 : m xs = some (.ref b)) (hm2 : m xk = some (.int 0 t))
    (hstar : ∀ env, starEach [.Name xs p3] env = (false, eval (.Name xs p3) env) :: starEach [] env) (hp : ∀ env, (backTo p4 (starEach [.Name xs p3] env)).any (·.1) = false)
    (hs : ∀ o i, subscripted (.Name xk p7) false o i = operate [o, i] (getItem o i)) (hmk : behindInMarks .Lt (.Call (.Name xl p2) [.Name xs p3] [] p4) = false)
    (C : ∀ i u toks, Q (.int i u) { s with toks := toks }) :
    wpAny (model X.prog X.w) A (eval (.IfExp (.Compare (.Name xk p1) [.Lt] [.Call (.Name xl p2) [.Name xs p3] [] p4] p5) (.Subscript (.Name xs p6) (.Name xk p7) p8) (.Constant (.int 0) kk p9) p10) env) Q E s := by
  refine IfExp_ (wpAny_isTrue_Compare1 (str_loc hE lk dk hn hm2 ?_) hmk)
  refine wpAny_Call_Name_kw (builtin_ok hE hg hb ll dl H ?_)
  refine callWith_of (P := fun _ => True) (by rw [hp env]; rfl) (keeps_v (by intro _ q; cases q)) (evalArgs_of (hp env) ?_)
  rw [hstar]
  refine spliced_cons (str_loc hE ls ds hn hm1 (spliced_nil ⟨trivial, ?_⟩))
  refine call_len_list (items := items) ⟨_, ho, hc, _, hd⟩ (by omega) ?_
  refine P.lt_int ?_
  refine wpAny_truthy_bool ?_
  by_cases q : (0 : Int) < (items.size : Int)
  · have e : items[0]? = some items[0] := by simp
    obtain ⟨i, u, hv⟩ := hi _ e
    rw [decide_eq_true q]
    refine Subscript_ (str_loc hE ls ds hn hm1 (str_loc hE lk dk hn hm2 ?_))
    refine subTail ⟨_, ho, hc⟩ PySem.F.slot_list_getitem.lookup (hs _ _) (wpAny_getItem_list (x := .int i u) ⟨_, ho, hc, _, hd⟩ (by decide) (by decide) (by rw [← hv]; exact e) (C _ _ _))
  · rw [decide_eq_false q]
    exact wpAny_Constant_int (C _ _ _)
theorem nm_script (e : Ev) (x : Nat) : (XX e).nm x ≠ .ofString "script" := by
  intro h
  have h : nmOf nmTab x = .ofString "script" := h
  unfold nmOf at h
  cases q : nmTab[x]? with
  | none =>
    rw [q] at h
    have : (⟨#[2000000 + x]⟩ : Str) = .ofString "script" := h
    have := congrArg (fun s : Str => s.cps.size) this
    revert this
    show 1 = _ → False
    decide
  | some y =>
    rw [q] at h
    have h : y = .ofString "script" := h
    have m := List.mem_of_getElem? q
    rw [h] at m
    have no : nmTab.contains (.ofString "script") = false := by kernel_rfl
    rw [List.contains_iff_mem.mpr m] at no
    cases no
noncomputable def yes (P : Prop) : Bool := @decide P (Classical.propDecidable P)
theorem yes_iff {P : Prop} : yes P = true ↔ P := @decide_eq_true_iff P (Classical.propDecidable P)
noncomputable def PoolEnd (v : AV) (σ : St) : Prop := v = .own 0 ∧ ∃ a b lo, InB a b ∧ σ = ⟨.node (.list [.int a, .int b]) .nil .nil, 1, lo, .nil⟩
theorem pool_shape : ∃ p0 p1 p2 p3 p4 p5 p6 p7 p8 p9 p10 p11, bodyL D1287 = .Assign [.Name (.ofString "cell") p0] (.IfExp (.Compare (.Name (.ofString "k") p1) [.Lt] [.Call (.Name (.ofString "len") p2) [.Name (.ofString "script") p3] [] p4] p5) (.Subscript (.Name (.ofString "script") p6) (.Name (.ofString "k") p7) p8) (.Constant (.int 0) 0 p9) p10) p11 :: List.drop 1 (bodyL D1287) :=
  ⟨_, _, _, _, _, _, _, _, _, _, _, _, rfl⟩
theorem pool_frame (e : Ev) (W : Wd) (b : Addr) (t : Tok) : FR (XX e) W (.cons 204 (.int 0) .nil) (fun x => [(Str.ofString "script", Value.ref b), (Str.ofString "k", Value.int 0 t)].reverse.lookup x) := fun x => by
  by_cases q : x = 204
  · subst q
    refine ⟨Value.int 0 t, ?_, t, rfl⟩
    rw [n_204]
    rfl
  · have e0 : FL.at (.cons 204 (.int 0) .nil) x = none := by
      show (if x = 204 then _ else _) = _
      rw [if_neg q]; rfl
    rw [e0]
    have n1 : ((XX e).nm x == Str.ofString "k") = false := beq_eq_false_iff_ne.mpr fun z => q ((XX e).nmi _ _ (z.trans n_204.symm))
    have n2 : ((XX e).nm x == Str.ofString "script") = false := beq_eq_false_iff_ne.mpr (nm_script e x)
    show List.lookup ((XX e).nm x) [(Str.ofString "k", Value.int 0 t), (Str.ofString "script", Value.ref b)] = none
    rw [List.lookup_cons, n1, List.lookup_cons, n2]
    rfl
theorem pool_real (e : Ev) {A : Around} (hA : Room 4 A) {E : Value → Shared → Prop} {Q : Value → Shared → Prop} {s : Shared} {b : Addr} {items : Array Value} {z : Nat} {t : Tok} (H : HRel (XX e) ⟨[], []⟩ ⟨.nil, 0, .nil, .nil⟩ s)
    {ol : Obj} (ho : s.heap.get? b = some ol) (hc : ol.cls = .type "list") (hd : ol.data = .seq items z) (hi : ∀ v, items[0]? = some v → ∃ i u, v = .int i u) (hz : items.size ≤ 10000)
    (C : ∀ v σ' W' s' a, PoolEnd v σ' → StepE s ⟨[], []⟩ s' W' → HRel (XX e) W' σ' s' → VR (XX e) W' v a → Q a s') :
    codeAny (model (XX e).prog (XX e).w) A (.call (.ref 1287) ⟨[.ref b, .int 0 t], []⟩) (fun r s' => match r with | .ok (.ret v) => Q v s' | .ok _ => False | .error e => E e s') s := by
  have hd0 := hA.dep
  have hroom : A.depth < recursionLimit := by unfold recursionLimit; omega
  have hF := (XX e).FIn.keeps H.base
  have hk : D1287.scope.kind = .function := by kernel_rfl
  have lk : D1287.scope.names.lookup (.ofString "k") = some .local := by kernel_rfl
  have ls : D1287.scope.names.lookup (.ofString "script") = some .local := by kernel_rfl
  have lc : D1287.scope.names.lookup (.ofString "cell") = some .local := by kernel_rfl
  have ll : D1287.scope.names.lookup (.ofString "len") = some .globalImplicit := by kernel_rfl
  refine codeAny_call_def (o := (fob D1287)) (fd := D1287) (body := bodyL D1287) (binds := [(.ofString "script", .ref b), (.ofString "k", .int 0 t)]) hroom (hF _ _ (by kernel_rfl)) rfl ((XX e).lim.keeps H.base) (codeRec_of hF (by kernel_rfl)) rfl (BindsTo.of_eq (by kernel_rfl)) (by decide +kernel) ?_ (fun h₀ hns hk0 => ?_) (by kernel_rfl) (by kernel_rfl) hk
  · intro x hx
    simp only [List.mem_cons, List.not_mem_nil, or_false] at hx
    rcases hx with rfl | rfl
    · exact ls
    · exact lk
  · obtain ⟨H', S'⟩ := H.grow hk0 (s.toks + [(Str.ofString "script", Value.ref b), (Str.ofString "k", Value.int 0 t)].length)
    have hE : EnvOk (XX e) D1287.scope.names (callEnv D1287 s.heap.objs.size 1287) s.heap.objs.size := ⟨hk, rfl, rfl, rfl, rfl⟩
    have hA' : Room 1 (A.deeper (callEnv D1287 s.heap.objs.size 1287)) := ⟨hA.hand, by show A.depth + 1 + 1 ≤ 900; omega, by have := hA.un; show A.units + 3 + 200 * 1 ≤ 9000; omega⟩
    have no := (nx_fresh H (fresh_none s.heap)).1
    have nh := (nx_fresh H (fresh_none s.heap)).2
    obtain ⟨p0, p1, p2, p3, p4, p5, p6, p7, p8, p9, p10, p11, hsh⟩ := pool_shape
    rw [hsh]
    refine wpAny_execs_cons (wpAny_Assign_Name (cell_ok (X := XX e) (n := 1) (m := fun x => [(Str.ofString "script", Value.ref b), (Str.ofString "k", Value.int 0 t)].reverse.lookup x) hE lk (by kernel_rfl) ls (by decide +kernel) ll (by kernel_rfl) gn_len gb_len (hk0 _ _ ho) hc hd hi hz (H'.lo .nil) hns rfl rfl (fun _ => rfl) (fun _ => rfl) (fun _ _ => by kernel_rfl) rfl (fun i u toks => ?_)) (by kernel_rfl))
    obtain ⟨x, y, lo', hin, hsp⟩ := pool_spec i
    refine store_ok (X := XX e) n_202 lc hE (v := .int i) (σ := ⟨.nil, 0, .cons 204 (.int 0) .nil, .nil⟩) (W := ⟨[], []⟩) (k := fun σ => fp_pool σ Mine.no Mine.no Mine.no fun v σ => yes (PoolEnd v σ)) (Q := fun s' => _) ?_ ((H'.lo _).toks _) ⟨_, hns, pool_frame e _ b t, no, nh⟩ ⟨u, rfl⟩ ?_
    · show fp_pool (σp i) _ _ _ _ = true
      rw [hsp]
      exact yes_iff.mpr ⟨rfl, x, y, lo', hin, rfl⟩
    · intro σ' W' s' h' x' H'' L'
      show wpAny (model (XX e).prog (XX e).w) _ (execs (List.drop 1 (bodyL D1287)) _) _ _ s'
      refine sp_pool e _ _ hE _ hA' σ' _ _ _ _ h' _ s' W' _ H'' L' ⟨fun _ _ _ h => (nomatch h), fun _ _ _ h => (nomatch h), fun _ _ _ h => (nomatch h), fun v σ₂ W₂ s₂ a h₂ x₂ H₂ V₂ => ?_⟩
      exact C v σ₂ W₂ s₂ a (yes_iff.mp h₂) (call_step hk0 ((StepE.to (Step.toks _)).trans (x'.trans x₂))) H₂ V₂
theorem law_shape : ∃ b1 q1 p0 p1 p2 p3 p4 p5, bodyL D1344 = .If test1 b1 [] q1 :: .Assign [.Name (.ofString "source") p0] (.Call (.Name (.ofString "_law_pool") p1) [.Name (.ofString "script") p2, .Constant (.int 0) 0 p3] [] p4) p5 :: List.drop 2 (bodyL D1344) :=
  ⟨_, _, _, _, _, _, _, _, rfl⟩
noncomputable def σ0 : St := ⟨.nil, 0, .nil, .nil⟩
theorem t1_eq (k : KB) : fp_t1 σ0 k = k false σ0 := by kernel_rfl
theorem g_given_int (q : Nat) (p i : Int) (σ : St) (k : K) (hq : q = 6 ∨ q = 8 ∨ q = 11 ∨ q = 16 ∨ q = 12) (hp : p = 255 ∨ p = 40 ∨ p = 252) (h0 : 0 ≤ i) (h1 : i < 256) : g_given [.str q, .int p, .int i] σ k = k .tt σ := by
  have hi : inR 0 255 i = true := inR_mk h0 (by omega)
  rcases hq with rfl | rfl | rfl | rfl | rfl <;> rcases hp with rfl | rfl | rfl <;> (show (true && (true && (inR 0 255 i && k .tt σ))) = _; rw [hi]; rfl)
theorem g_given_none (q : Nat) (i : Int) (σ : St) (k : K) (hq : q = 6 ∨ q = 8 ∨ q = 11 ∨ q = 16 ∨ q = 12) (h0 : 0 ≤ i) (h1 : i < 256) : g_given [.str q, .none, .int i] σ k = k .tt σ := by
  have hi : inR 0 255 i = true := inR_mk h0 (by omega)
  rcases hq with rfl | rfl | rfl | rfl | rfl <;> (show (true && (inR 0 255 i && k .tt σ)) = _; rw [hi]; rfl)
theorem g_waits_int (p i j : Int) (σ : St) (k : K) (hp : p = 255 ∨ p = 40 ∨ p = 252) (h0 : 0 ≤ i) (h1 : i < 256) (j0 : 0 ≤ j) (j1 : j < 90) : g_waits [.int p, .int i, .int j] σ k = k .tt σ := by
  have hi : inR 0 255 i = true := inR_mk h0 (by omega)
  have hj : inR 0 89 j = true := inR_mk j0 (by omega)
  rcases hp with rfl | rfl | rfl <;> (show (true && (inR 0 255 i && (inR 0 89 j && k .tt σ))) = _; rw [hi, hj]; rfl)
theorem g_tries_int (x y z : Int) (c : Bool) (σ : St) (k : K) (x0 : 4 ≤ x) (x1 : x < 21) (y0 : 2 ≤ y) (y1 : y < 5) (z0 : 0 ≤ z) (z1 : z < 3) : g_tries [.int x, (if c then .tt else .ff), .int y, .int z] σ k = k .tt σ := by
  have hx : inR 4 20 x = true := inR_mk x0 (by omega)
  have hy : inR 2 4 y = true := inR_mk y0 (by omega)
  have hz : inR 0 2 z = true := inR_mk z0 (by omega)
  cases c <;> (show (inR 4 20 x && (inR 2 4 y && (inR 0 2 z && k .tt σ))) = _; rw [hx, hy, hz]; rfl)
theorem law2_true {a b : Int} (I : InB a b) : fp_law2 (σl a b) no no no isT = true :=
  law2_spec I (fun m a b I h => take_spec m I h) g_given_int g_given_none g_waits_int g_tries_int
theorem law_frame (e : Ev) (W : Wd) (b : Addr) : FR (XX e) W .nil (fun x => [(Str.ofString "script", Value.ref b)].reverse.lookup x) := fun x => by
  have n2 : ((XX e).nm x == Str.ofString "script") = false := beq_eq_false_iff_ne.mpr (nm_script e x)
  show List.lookup ((XX e).nm x) [(Str.ofString "script", Value.ref b)] = none
  rw [List.lookup_cons, n2]
  rfl
theorem law_real (e : Ev) {A : Around} (hA : Room 13 A) {E : Value → Shared → Prop} {Q : Value → Shared → Prop} {s : Shared} {b : Addr} {items : Array Value} {z : Nat} (H : HRel (XX e) ⟨[], []⟩ σ0 s)
    {ol : Obj} (ho : s.heap.get? b = some ol) (hc : ol.cls = .type "list") (hd : ol.data = .seq items z) (hi : ∀ v, items[0]? = some v → ∃ i u, v = .int i u) (hz : items.size ≤ 10000)
    (C : ∀ W' s', StepE s ⟨[], []⟩ s' W' → s'.gens = #[] → Q (.bool true) s') :
    codeX (model (XX e).prog (XX e).w) A (.call (.ref 1344) ⟨[.ref b], []⟩) (fun r s' => match r with | .ok (.ret v) => Q v s' | .ok _ => False | .error e => E e s') s := by
  have hd0 := hA.dep
  have hroom : A.depth < recursionLimit := by unfold recursionLimit; omega
  have hF := (XX e).FIn.keeps H.base
  have hk : D1344.scope.kind = .function := by kernel_rfl
  have ls : D1344.scope.names.lookup (.ofString "script") = some .local := by kernel_rfl
  have lc : D1344.scope.names.lookup (.ofString "source") = some .local := by kernel_rfl
  have lp : D1344.scope.names.lookup (.ofString "_law_pool") = some .globalImplicit := by kernel_rfl
  have gp : nsIn (XX e).F (XX e).G (.ofString "_law_pool") = some (some (.ref 1287)) := by kernel_rfl
  have kp : keepIn (XX e).F (.ref 1287) = true := by kernel_rfl
  refine codeX_call_def (o := (fob D1344)) (fd := D1344) (body := bodyL D1344) (binds := [(.ofString "script", .ref b)]) hroom (hF _ _ (by kernel_rfl)) rfl ((XX e).lim.keeps H.base) (codeRec_of hF (by kernel_rfl)) rfl (BindsTo.of_eq (by kernel_rfl)) (by decide +kernel) ?_ (fun h₀ hns hk0 => ?_) (by kernel_rfl) (by kernel_rfl) hk
  · intro x hx
    simp only [List.mem_cons, List.not_mem_nil, or_false] at hx
    rcases hx with rfl
    exact ls
  · obtain ⟨H', S'⟩ := H.grow hk0 (s.toks + [(Str.ofString "script", Value.ref b)].length)
    have hE : EnvOk (XX e) D1344.scope.names (callEnv D1344 s.heap.objs.size 1344) s.heap.objs.size := ⟨hk, rfl, rfl, rfl, rfl⟩
    have hA' : Room 12 (A.deeper (callEnv D1344 s.heap.objs.size 1344)) := ⟨hA.hand, by show A.depth + 1 + 12 ≤ 900; omega, by have := hA.un; show A.units + 3 + 200 * 12 ≤ 9000; omega⟩
    have no := (nx_fresh H (fresh_none s.heap)).1
    have nh := (nx_fresh H (fresh_none s.heap)).2
    obtain ⟨b1, q1, p0, p1, p2, p3, p4, p5, hsh⟩ := law_shape
    rw [hsh]
    refine x_execs_cons (x_If (wpX_any (st_law1 e _ _ hE _ hA' σ0 (fun c σ => yes (c = false ∧ σ = σ0)) (by rw [t1_eq]; exact yes_iff.mpr ⟨rfl, rfl⟩) _ _ ⟨[], []⟩ _ H' ⟨_, hns, law_frame e _ b, no, nh⟩ (fun c σ' W' s' h' e' x' H'' => ?_))))
    obtain ⟨rfl, rfl⟩ := yes_iff.mp h'
    obtain ⟨H2, S2⟩ := H'.later (s' := s') (fun b o g => x'.keep b o g (fun q => by (obtain ⟨p, hp, _⟩ := q; simp at hp)) id) H''.gens x'.os
    have keep : ∀ b o, h₀.get? b = some o → s'.heap.get? b = some o := fun b o g => x'.keep b o g (fun q => by (obtain ⟨p, hp, _⟩ := q; simp at hp)) id
    have hns' := ns_at hns (keep _)
    show wpX _ _ (execs [] _) _ _ s'
    refine wpX_any (wpAny_execs_nil ?_)
    refine x_execs_cons (x_Assign_Name (wpX_any (wpAny_Call_Name_kw (glob_ok hE gp lp (by decide +kernel) H2 ?_))) (by kernel_rfl))
    refine callWith_of rfl (keeps_K kp) (evalArgs_of rfl ?_)
    refine spliced_cons (str_loc hE ls (by decide +kernel) hns' rfl ?_)
    refine spliced_cons (wpAny_Constant_int (k := 0) (pos := p3) ?_)
    refine spliced_nil ⟨(XX e).FIn.keeps H2.base, ?_⟩
    refine wpAny_call (pool_real e (hA'.weak (by decide)) (H2.toks _) (keep _ _ (hk0 _ _ ho)) hc hd hi hz (fun v σ₃ W₃ s₃ a hpe x₃ H₃ V₃ => ?_))
    obtain ⟨rfl, x, y, lo', hin, rfl⟩ := hpe
    have hL3 : LRel (XX e) W₃ s.heap.objs.size .nil s₃.heap := LRel.stepE ⟨_, hns', law_frame e _ b, no, nh⟩ ((Step.toks (s'.toks + 1)).trans x₃)
    refine store_ok (X := XX e) n_198 lc hE (v := .own 0) (σ := ⟨.node (.list [.int x, .int y]) .nil .nil, 1, .nil, .nil⟩) (W := W₃) (k := fun σ => fp_law2 σ Mine.no Mine.no Mine.no isT) (Q := fun s' => _) (law2_true hin) (H₃.lo _) hL3 V₃ ?_
    intro σ₄ W₄ s₄ h₄ x₄ H₄ L₄
    show wpX (model (XX e).prog (XX e).w) _ (execs (List.drop 2 (bodyL D1344)) _) _ _ s₄
    refine sp_law2 e _ _ hE _ hA' σ₄ _ _ _ _ h₄ _ s₄ W₄ _ H₄ L₄ ⟨fun _ _ _ h => (nomatch h), fun _ _ _ h => (nomatch h), fun _ _ _ h => (nomatch h), fun v σ₅ W₅ s₅ a h₅ x₅ H₅ V₅ => ?_⟩
    obtain rfl := isT_ok h₅ V₅
    exact C W₅ s₅ (call_step hk0 ((StepE.to S2).trans ((StepE.to (Step.toks _)).trans ((StepE.to x₃).trans (x₄.trans x₅))))) H₅.gens
theorem ns_of_in {K : Frag} {h : Heap} (x : K.In h) {ns : Addr} {name : Str} {v : Value} {m : Str → Option Value} (e : nsIn K ns name = some (some v)) (hn : h.Ns ns m) : m name = some v := by
  obtain ⟨o, es, ep, g, hd, hk, hf⟩ := hn
  unfold nsIn at e
  split at e
  · rename_i c d es' n sl ho
    have g' := x _ _ ho
    rw [g] at g'
    cases g'
    cases hd
    rw [← hf]
    unfold nsFind findBy
    split at e
    · rename_i en he
      cases e
      rw [← Array.find?_toList, he]
      rfl
    · split at e <;> cases e
  · cases e
theorem law_post (xs : List WData) : theLaw.row.claim.post [.list xs] (.bool true) [.list xs] = true := by
  have e1 : WShape.has [] (.bool true) .bool = true := by simp [WShape.has, WShape.arms]
  have e2 : WTm.holds [] (.eq .res (.lit (.bool true))) { args := [.list xs], res := some (.bool true), after := [.list xs] } = true := by
    simp [WTm.holds, WTm.value]
    kernel_rfl
  show (WShape.has [] (.bool true) .bool && WTm.holds [] (.eq .res (.lit (.bool true))) { args := [.list xs], res := some (.bool true), after := [.list xs] }) = true
  rw [e1, e2]
  rfl
theorem law_call (w : World) (s₀ s₁ : Shared) (lim : s₁.heap.NoLimit) (hsz : sysModules < s₀.heap.objs.size) (hY : Yf0 s₀ = Ya0 w) (keeps : ∀ b o, s₀.heap.get? b = some o → s₁.heap.get? b = some o) (hg : s₁.gens = #[]) (args : List WData) (vs : List Value) (as : List Addr)
    (hpre : theLaw.row.claim.pre args = true) (hrd : ReadsAllW [] (classAt s₀.heap) s₁.heap vs args as) (mg : Str → Option Value) (hm : s₁.heap.Ns mainGlobals mg) :
    ∃ f, mg theLaw.name = some f ∧ wpX (model theLaw.prog w) callerA (PySem.call f vs) (fun v s' => GoodWG theLaw.row.claim (classAt s₀.heap) (ExcName.means s₀.heap) args s₁ (.ok (.ret v)) s')
          (fun e s' => GoodWG theLaw.row.claim (classAt s₀.heap) (ExcName.means s₀.heap) args s₁ (.error e) s') s₁ := by
  have F0 : (KF w.params).In s₀.heap := Frag.in_of (asK0 _) hY
  have F1 : (KF w.params).In s₁.heap := F0.keeps keeps
  have q1 : ((KF w.params).lookup sysModules).isSome = true := by kernel_rfl
  obtain ⟨o1, q1⟩ := Option.isSome_iff_exists.mp q1
  have sys : (s₁.heap.get? sysModules).isSome = true := by rw [F1 _ _ q1]; rfl
  obtain ⟨h1, h2⟩ := pre_splitW hpre
  refine ⟨.ref 1344, ns_of_in (name := .ofString "law") F1 (by kernel_rfl) hm, ?_⟩
  have hs : WShape.hasAll [] args [.list .int] = true := h1
  have hp : theLaw.pre.holds [] { args := args } = true := h2
  obtain ⟨d, r, rfl, hd, hr⟩ := hasAllW_cons hs
  have : r = [] := by cases r with
    | nil => rfl
    | cons _ _ => simp [WShape.hasAll] at hr
  subst this
  cases hrd with
  | cons r1 r2 =>
    cases r2
    obtain ⟨b, ol, items, z, xs, rfl, rfl, ho, hc, hd', hsz', hi⟩ := arg_of r1 hd
    have hz : items.size ≤ 10000 := by have := pre_len hp; omega
    refine wpX_call (law_real ⟨w, s₁.heap, F1, lim, sys⟩ ⟨rfl, by decide, by decide⟩ (start_rel (j := []) (ms := .nil) (fun _ _ e => e) hg (fun t l q => nomatch q)) ho hc hd' hi hz (fun W' s' x g => ?_))
    exact ⟨.inl ⟨.bool true, .bool true, [], rfl, fun _ => rfl, .bool true, law_post xs, fun _ => ⟨List.nodup_nil, fun _ h => nomatch h⟩⟩, .of_keep (fun b o q => x.keep b o q (fun q => by (obtain ⟨p, hp, _⟩ := q; simp at hp)) id), x.os, .of_eq g⟩
end Mine
end
open PySem PySem.W PySem.Calls PyProof.Rows
namespace Mine
theorem row_holds (k1 : theLaw.row.wellSaid = true) : theLaw.row.Holds := law_X k1 left0 law_hw rfl law_def law_hp law_hk law_ok law_hb law_call
end Mine
theorem PySem.Challenge.cw_pf0404_01_holds : PySem.Challenge.rw_pf0404_01.Holds :=
  PySem.W.holds_law Mine.said Mine.row_holds
