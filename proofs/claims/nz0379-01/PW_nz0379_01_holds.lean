import PyProof.Rows.All
import Wide.All
import OpenK.AllK
import Wide.FinOn
import PySem.Challenge.RW_nz0379_01
open PySem PySem.W PySem.Calls PyProof.Rows
set_option Elab.async false
set_option linter.all false
set_option maxRecDepth 100000
set_option maxHeartbeats 8000000
namespace Mine
noncomputable abbrev pw := PySem.Challenge.pw_nz0379_01
noncomputable def A3g (l : List Stmt) (i : Nat) : Stmt := (l[i]?).getD (.Pass ⟨0, 0, 0, 0⟩)
noncomputable def B4m : Stmt → List Stmt
 | .ClassDef _ _ _ b _ _ _ _ _ _ _ => b
 | _ => []
noncomputable def A0T (i : Nat) : Stmt := A3g pw.main.body i
noncomputable def A0j (i j : Nat) : Stmt := A3g (B4m (A0T i)) j
noncomputable def fnO (qual : Str) (pm dV : Value) (code : Addr) : Stmt → Obj
 | .FunctionDef name args body _ _ _ scope _ _ _ => { cls := .type "function", data := .func (fnOf name qual args body scope dV .none .none pm none (.ref code) .none) }
 | _ => default
noncomputable def A0E (vs : List Value) : Obj := { cls := .type "code", data := .fields vs.toArray }
noncomputable def B1M (q : Str) (C ns : Addr) (sl : List (Option Value)) : Obj :=
 { cls := .type "type", data := .cls { name := q, bases := [.type "object"], mro := [.ref C, .type "object"], ns := ns, qualname := q }, slots := sl.toArray }
noncomputable def nsE (P : Params) (l : List (Str × Tok × Value)) : List DictEntry := l.map fun e => ⟨PyData.keyHash P e.1, .str e.1 e.2.1, e.2.2⟩
noncomputable def nsO (P : Params) (l : List (Str × Tok × Value)) (n : Nat) : Obj := { cls := .type "dict", data := .dict (nsE P l).toArray n }
noncomputable def nsON (P : Params) (l : List (Str × Tok × Value)) (n : Nat) : Obj := { cls := .none, data := .dict (nsE P l).toArray n }
noncomputable abbrev vs (x : String) (t : Nat) : Value := .str (.ofString x) t
noncomputable abbrev ke (x : String) (t : Nat) (v : Value) : Str × Tok × Value := (.ofString x, t, v)
noncomputable def kc0 (P : Params) : Frag := [
 (2, nsON P [ke "type.__subclasses__.Exception.0" 212 (.int 31 0), ke "type.__subclasses__.Exception.n" 213 (.int 1 0)] 2),
 (3, nsO P ([ke "__name__" 165 (vs "law_nz0379_01" 1766), ke "__doc__" 166 (.none), ke "__package__" 167 (.none), ke "__loader__" 168 (.builtin "__main__.__loader__#opaque"), ke "__spec__" 169 (.none), ke "__annotations__" 170 (.ref 6), ke "__builtins__" 171 (.ref 4), ke "__file__" 173 (vs "/claim/cut.py" 172), ke "__cached__" 174 (.none), ke "_wall" 193 (.ref 21), ke "KeepError" 215 (.ref 31), ke "StoreError" 231 (.ref 44), ke "Corrupt" 247 (.ref 56), ke "ShortOctets" 263 (.ref 68), ke "BadOption" 279 (.ref 80), ke "BatchRefused" 295 (.ref 92), ke "ServeError" 311 (.ref 104), ke "BadCommand" 327 (.ref 116), ke "AppliedGap" 343 (.ref 128), ke "MAX_32" 347 (.int 4294967295 346), ke "MAX_64" 349 (.int 18446744073709551615 348), ke "write_groups" 358 (.ref 137), ke "read_groups" 372 (.ref 144), ke "put_varint" 379 (.ref 151), ke "read_varint" 387 (.ref 158), ke "put_varint32" 394 (.ref 165), ke "read_varint32" 402 (.ref 172), ke "varint_length" 410 (.ref 179), ke "put_fixed32" 417 (.ref 186), ke "put_fixed64" 424 (.ref 193), ke "read_fixed32" 432 (.ref 200), ke "read_fixed64" 440 (.ref 207), ke "read_lengthed" 449 (.ref 214), ke "Cursor" 554 (.ref 295), ke "Sink" 645 (.ref 372), ke "MSG_PIECE" 649 (.int 20 648), ke "ENTRY_NORMAL" 651 (.int 0 650), ke "ENTRY_CONF" 653 (.int 2 652), ke "rising" 662 (.ref 383), ke "take_count" 670 (.ref 390)] ++ ([ke "Entry" 735 (.ref 435), ke "encode_entry" 743 (.ref 446), ke "decode_entry" 755 (.ref 453), ke "ConfState" 806 (.ref 484), ke "put_ids" 815 (.ref 495), ke "take_ids" 825 (.ref 502), ke "encode_conf" 833 (.ref 509), ke "decode_conf" 846 (.ref 516), ke "Snapshot" 902 (.ref 554), ke "encode_snapshot" 910 (.ref 565), ke "decode_snapshot" 922 (.ref 572), ke "Message" 977 (.ref 599), ke "encode_message" 986 (.ref 610), ke "decode_message" 999 (.ref 617), ke "FATE_KEEP" 1003 (.int 0 1002), ke "FATE_LOSE" 1005 (.int 1 1004), ke "FATE_TWICE" 1007 (.int 2 1006), ke "FATE_FIRST" 1009 (.int 3 1008), ke "FATE_LATE" 1011 (.int 4 1010), ke "FATE_COUNT" 1013 (.int 5 1012), ke "LATE_BY" 1015 (.int 2 1014), ke "Net" 1193 (.ref 747), ke "KIND_DELETE" 1197 (.int 0 1196), ke "KIND_VALUE" 1199 (.int 1 1198), ke "MAX_SEQ" 1201 (.int 72057594037927935 1200), ke "BATCH_HEAD" 1203 (.int 12 1202), ke "WriteBatch" 1310 (.ref 831), ke "check_span" 1318 (.ref 842), ke "CMD_NONE" 1322 (.int 0 1321), ke "CMD_PUT" 1324 (.int 1 1323), ke "CMD_DELETE" 1326 (.int 2 1325), ke "CMD_CAS" 1328 (.int 3 1327), ke "CMD_OPEN" 1330 (.int 5 1329), ke "CMD_CLOSE" 1332 (.int 6 1331), ke "REPLY_OK" 1334 (.int 0 1333), ke "REPLY_NO" 1336 (.int 1 1335), ke "REPLY_UNKNOWN" 1338 (.int 2 1337), ke "REPLY_STALE" 1340 (.int 3 1339), ke "APPLIED_KEY" 1342 (.bytes #[97] 1341), ke "DATA_HEAD" 1344 (.bytes #[100] 1343)] ++ [ke "DATA_END" 1346 (.bytes #[101] 1345), ke "SESSION_HEAD" 1348 (.bytes #[115] 1347), ke "SESSION_END" 1350 (.bytes #[116] 1349), ke "Command" 1404 (.ref 873), ke "put_maybe" 1412 (.ref 884), ke "take_maybe" 1419 (.ref 891), ke "decode_command" 1433 (.ref 898), ke "make_reply" 1442 (.ref 905), ke "data_key" 1449 (.ref 912), ke "session_key" 1457 (.ref 919), ke "client_of" 1466 (.ref 926), ke "encode_session" 1476 (.ref 933), ke "decode_session" 1487 (.ref 940), ke "Machine" 1661 (.ref 1055), ke "same_maybe" 1669 (.ref 1066), ke "MemStore" 1765 (.ref 1132), ke "_law_kinds" 1773 (.ref 1143), ke "_law_draw" 1781 (.ref 1150), ke "_law_maybe" 1788 (.ref 1157), ke "_law_send" 1798 (.ref 1164), ke "_law_hand" 1815 (.ref 1171), ke "law" 1821 (.ref 1176)])) 102),
 (164, A0E [vs "put_varint32" 388, vs "put_varint32" 389, vs "/claim/cut.py" 390, .int 60 0, .int 1 0, .int 0 0, .int 0 0, .int 3 0, .ref 159, .bool true, .int 181 0, .ref 160, .none, .ref 161, .ref 162, .ref 163, .int 392 0, .int 60 0, vs "/claim/cut.py" 393]),
 (165, fnO "put_varint32" (vs "raftkeep.octets" 344) (.none) 164 (A0T 18)),
 (171, A0E [vs "read_varint32" 395, vs "read_varint32" 396, vs "/claim/cut.py" 397, .int 64 0, .int 2 0, .int 0 0, .int 0 0, .int 3 0, .ref 166, .bool true, .int 181 0, .ref 167, .none, .ref 168, .ref 169, .ref 170, .int 400 0, .int 64 0, vs "/claim/cut.py" 401]),
 (172, fnO "read_varint32" (vs "raftkeep.octets" 344) (.none) 171 (A0T 19)),
 (178, A0E [vs "varint_length" 403, vs "varint_length" 404, vs "/claim/cut.py" 405, .int 68 0, .int 1 0, .int 0 0, .int 0 0, .int 3 0, .ref 173, .bool true, .int 181 0, .ref 174, .none, .ref 175, .ref 176, .ref 177, .int 408 0, .int 68 0, vs "/claim/cut.py" 409]),
 (179, fnO "varint_length" (vs "raftkeep.octets" 344) (.none) 178 (A0T 20)),
 (185, A0E [vs "put_fixed32" 411, vs "put_fixed32" 412, vs "/claim/cut.py" 413, .int 76 0, .int 1 0, .int 0 0, .int 0 0, .int 3 0, .ref 180, .bool true, .int 181 0, .ref 181, .none, .ref 182, .ref 183, .ref 184, .int 415 0, .int 76 0, vs "/claim/cut.py" 416]),
 (186, fnO "put_fixed32" (vs "raftkeep.octets" 344) (.none) 185 (A0T 21)),
 (192, A0E [vs "put_fixed64" 418, vs "put_fixed64" 419, vs "/claim/cut.py" 420, .int 80 0, .int 1 0, .int 0 0, .int 0 0, .int 3 0, .ref 187, .bool true, .int 181 0, .ref 188, .none, .ref 189, .ref 190, .ref 191, .int 422 0, .int 80 0, vs "/claim/cut.py" 423]),
 (193, fnO "put_fixed64" (vs "raftkeep.octets" 344) (.none) 192 (A0T 22))]
noncomputable def ka0 : List Addr := [2, 3, 164, 165, 171, 172, 178, 179, 185, 186, 192, 193]
noncomputable def kc1 (P : Params) : Frag := [
 (213, A0E [vs "read_lengthed" 441, vs "read_lengthed" 442, vs "/claim/cut.py" 443, .int 92 0, .int 2 0, .int 0 0, .int 0 0, .int 3 0, .ref 208, .bool true, .int 181 0, .ref 209, .none, .ref 210, .ref 211, .ref 212, .int 447 0, .int 92 0, vs "/claim/cut.py" 448]),
 (214, fnO "read_lengthed" (vs "raftkeep.octets" 344) (.none) 213 (A0T 25)),
 (222, { cls := .type "tuple", data := .seq #[.int 0 462] 0 }),
 (228, A0E [vs "__init__" 463, vs "Cursor.__init__" 464, vs "/claim/cut.py" 465, .int 99 0, .int 3 0, .int 0 0, .int 0 0, .int 3 0, .ref 223, .bool true, .int 181 0, .ref 224, .none, .ref 225, .ref 226, .ref 227, .int 469 0, .int 99 0, vs "/claim/cut.py" 470]),
 (229, fnO "Cursor.__init__" (vs "raftkeep.octets" 344) (.ref 222) 228 (A0j 26 0)),
 (242, A0E [vs "varint" 479, vs "Cursor.varint" 480, vs "/claim/cut.py" 481, .int 108 0, .int 1 0, .int 0 0, .int 0 0, .int 3 0, .ref 237, .bool true, .int 181 0, .ref 238, .none, .ref 239, .ref 240, .ref 241, .int 485 0, .int 108 0, vs "/claim/cut.py" 486]),
 (243, fnO "Cursor.varint" (vs "raftkeep.octets" 344) (.none) 242 (A0j 26 2)),
 (263, A0E [vs "lengthed" 504, vs "Cursor.lengthed" 505, vs "/claim/cut.py" 506, .int 127 0, .int 1 0, .int 0 0, .int 0 0, .int 3 0, .ref 258, .bool true, .int 181 0, .ref 259, .none, .ref 260, .ref 261, .ref 262, .int 510 0, .int 127 0, vs "/claim/cut.py" 511]),
 (264, fnO "Cursor.lengthed" (vs "raftkeep.octets" 344) (.none) 263 (A0j 26 5)),
 (277, A0E [vs "flag" 521, vs "Cursor.flag" 522, vs "/claim/cut.py" 523, .int 139 0, .int 1 0, .int 0 0, .int 0 0, .int 3 0, .ref 272, .bool true, .int 181 0, .ref 273, .none, .ref 274, .ref 275, .ref 276, .int 526 0, .int 139 0, vs "/claim/cut.py" 527]),
 (278, fnO "Cursor.flag" (vs "raftkeep.octets" 344) (.none) 277 (A0j 26 7)),
 (291, A0E [vs "done" 538, vs "Cursor.done" 539, vs "/claim/cut.py" 540, .int 155 0, .int 1 0, .int 0 0, .int 0 0, .int 3 0, .ref 286, .bool true, .int 181 0, .ref 287, .none, .ref 288, .ref 289, .ref 290, .int 542 0, .int 155 0, vs "/claim/cut.py" 543])]
noncomputable def ka1 : List Addr := [213, 214, 222, 228, 229, 242, 243, 263, 264, 277, 278, 291]
noncomputable def kc2 (P : Params) : Frag := [
 (292, fnO "Cursor.done" (vs "raftkeep.octets" 344) (.none) 291 (A0j 26 9)),
 (294, nsO P [ke "__module__" 457 (vs "raftkeep.octets" 344), ke "__firstlineno__" 461 (.int 97 460), ke "__init__" 471 (.ref 229), ke "left" 478 (.ref 236), ke "varint" 487 (.ref 243), ke "fixed32" 495 (.ref 250), ke "fixed64" 503 (.ref 257), ke "lengthed" 512 (.ref 264), ke "octet" 520 (.ref 271), ke "flag" 528 (.ref 278), ke "take" 537 (.ref 285), ke "done" 544 (.ref 292), ke "__static_attributes__" 547 (.ref 293), ke "__dict__" 549 (.ref 296), ke "__weakref__" 551 (.ref 297), ke "__doc__" 552 (.none)] 4),
 (295, B1M "Cursor" 295 294 [none, none, some (vs "Cursor" 450), some (vs "Cursor" 458), some (.builtin "object.__new__"), some (.bool true)]),
 (312, A0E [vs "__init__" 567, vs "Sink.__init__" 568, vs "/claim/cut.py" 569, .int 160 0, .int 1 0, .int 0 0, .int 0 0, .int 3 0, .ref 307, .bool true, .int 181 0, .ref 308, .none, .ref 309, .ref 310, .ref 311, .int 571 0, .int 160 0, vs "/claim/cut.py" 572]),
 (313, fnO "Sink.__init__" (vs "raftkeep.octets" 344) (.none) 312 (A0j 27 0)),
 (319, A0E [vs "varint" 574, vs "Sink.varint" 575, vs "/claim/cut.py" 576, .int 163 0, .int 2 0, .int 0 0, .int 0 0, .int 3 0, .ref 314, .bool true, .int 181 0, .ref 315, .none, .ref 316, .ref 317, .ref 318, .int 579 0, .int 163 0, vs "/claim/cut.py" 580]),
 (320, fnO "Sink.varint" (vs "raftkeep.octets" 344) (.none) 319 (A0j 27 1)),
 (340, A0E [vs "lengthed" 598, vs "Sink.lengthed" 599, vs "/claim/cut.py" 600, .int 175 0, .int 2 0, .int 0 0, .int 0 0, .int 3 0, .ref 335, .bool true, .int 181 0, .ref 336, .none, .ref 337, .ref 338, .ref 339, .int 603 0, .int 175 0, vs "/claim/cut.py" 604]),
 (341, fnO "Sink.lengthed" (vs "raftkeep.octets" 344) (.none) 340 (A0j 27 4)),
 (347, A0E [vs "octet" 606, vs "Sink.octet" 607, vs "/claim/cut.py" 608, .int 179 0, .int 2 0, .int 0 0, .int 0 0, .int 3 0, .ref 342, .bool true, .int 181 0, .ref 343, .none, .ref 344, .ref 345, .ref 346, .int 611 0, .int 179 0, vs "/claim/cut.py" 612]),
 (348, fnO "Sink.octet" (vs "raftkeep.octets" 344) (.none) 347 (A0j 27 5)),
 (354, A0E [vs "flag" 614, vs "Sink.flag" 615, vs "/claim/cut.py" 616, .int 184 0, .int 2 0, .int 0 0, .int 0 0, .int 3 0, .ref 349, .bool true, .int 181 0, .ref 350, .none, .ref 351, .ref 352, .ref 353, .int 619 0, .int 184 0, vs "/claim/cut.py" 620])]
noncomputable def ka2 : List Addr := [292, 294, 295, 312, 313, 319, 320, 340, 341, 347, 348, 354]
noncomputable def kc3 (P : Params) : Frag := [
 (355, fnO "Sink.flag" (vs "raftkeep.octets" 344) (.none) 354 (A0j 27 6)),
 (368, A0E [vs "done" 630, vs "Sink.done" 631, vs "/claim/cut.py" 632, .int 193 0, .int 1 0, .int 0 0, .int 0 0, .int 3 0, .ref 363, .bool true, .int 181 0, .ref 364, .none, .ref 365, .ref 366, .ref 367, .int 634 0, .int 193 0, vs "/claim/cut.py" 635]),
 (369, fnO "Sink.done" (vs "raftkeep.octets" 344) (.none) 368 (A0j 27 8)),
 (371, nsO P [ke "__module__" 562 (vs "raftkeep.octets" 344), ke "__firstlineno__" 566 (.int 158 565), ke "__init__" 573 (.ref 313), ke "varint" 581 (.ref 320), ke "fixed32" 589 (.ref 327), ke "fixed64" 597 (.ref 334), ke "lengthed" 605 (.ref 341), ke "octet" 613 (.ref 348), ke "flag" 621 (.ref 355), ke "raw" 629 (.ref 362), ke "done" 636 (.ref 369), ke "__static_attributes__" 638 (.ref 370), ke "__dict__" 640 (.ref 373), ke "__weakref__" 642 (.ref 374), ke "__doc__" 643 (.none)] 4),
 (372, B1M "Sink" 372 371 [none, none, some (vs "Sink" 555), some (vs "Sink" 563), some (.builtin "object.__new__"), some (.bool true)]),
 (403, A0E [vs "__init__" 683, vs "Entry.__init__" 684, vs "/claim/cut.py" 685, .int 212 0, .int 5 0, .int 0 0, .int 0 0, .int 3 0, .ref 398, .bool true, .int 181 0, .ref 399, .none, .ref 400, .ref 401, .ref 402, .int 691 0, .int 212 0, vs "/claim/cut.py" 692]),
 (404, fnO "Entry.__init__" (vs "raftkeep.messages" 646) (.none) 403 (A0j 34 0)),
 (417, A0E [vs "copy" 701, vs "Entry.copy" 702, vs "/claim/cut.py" 703, .int 221 0, .int 1 0, .int 0 0, .int 0 0, .int 3 0, .ref 412, .bool true, .int 181 0, .ref 413, .none, .ref 414, .ref 415, .ref 416, .int 705 0, .int 221 0, vs "/claim/cut.py" 706]),
 (418, fnO "Entry.copy" (vs "raftkeep.messages" 646) (.none) 417 (A0j 34 2)),
 (434, nsO P [ke "__module__" 678 (vs "raftkeep.messages" 646), ke "__firstlineno__" 682 (.int 210 681), ke "__init__" 693 (.ref 404), ke "row" 700 (.ref 411), ke "copy" 707 (.ref 418), ke "payload" 714 (.ref 425), ke "size" 723 (.ref 432), ke "__static_attributes__" 728 (.ref 433), ke "__dict__" 730 (.ref 436), ke "__weakref__" 732 (.ref 437), ke "__doc__" 733 (.none)] 4),
 (435, B1M "Entry" 435 434 [none, none, some (vs "Entry" 671), some (vs "Entry" 679), some (.builtin "object.__new__"), some (.bool true)]),
 (585, A0E [vs "__init__" 935, vs "Message.__init__" 936, vs "/claim/cut.py" 937, .int 324 0, .int 5 0, .int 0 0, .int 0 0, .int 3 0, .ref 580, .bool true, .int 181 0, .ref 581, .none, .ref 582, .ref 583, .ref 584, .int 943 0, .int 324 0, vs "/claim/cut.py" 944])]
noncomputable def ka3 : List Addr := [355, 368, 369, 371, 372, 403, 404, 417, 418, 434, 435, 585]
noncomputable def kc4 (P : Params) : Frag := [
 (586, fnO "Message.__init__" (vs "raftkeep.messages" 646) (.none) 585 (A0j 45 0)),
 (595, A0E [vs "copy" 952, vs "Message.copy" 953, vs "/claim/cut.py" 954, .int 345 0, .int 1 0, .int 0 0, .int 0 0, .int 3 0, .ref 592, .bool true, .int 181 0, .ref 593, .none, .none, .none, .ref 594, .int 955 0, .int 345 0, vs "/claim/cut.py" 956]),
 (596, fnO "Message.copy" (vs "raftkeep.messages" 646) (.none) 595 (A0j 45 2)),
 (598, nsO P [ke "__module__" 930 (vs "raftkeep.messages" 646), ke "__firstlineno__" 934 (.int 322 933), ke "__init__" 945 (.ref 586), ke "row" 951 (.ref 591), ke "copy" 957 (.ref 596), ke "__static_attributes__" 970 (.ref 597), ke "__dict__" 972 (.ref 600), ke "__weakref__" 974 (.ref 601), ke "__doc__" 975 (.none)] 4),
 (599, B1M "Message" 599 598 [none, none, some (vs "Message" 923), some (vs "Message" 931), some (.builtin "object.__new__"), some (.bool true)]),
 (628, A0E [vs "__init__" 1028, vs "Net.__init__" 1029, vs "/claim/cut.py" 1030, .int 406 0, .int 3 0, .int 0 0, .int 0 0, .int 3 0, .ref 625, .bool true, .int 181 0, .ref 626, .none, .none, .none, .ref 627, .int 1031 0, .int 406 0, vs "/claim/cut.py" 1032]),
 (629, fnO "Net.__init__" (vs "raftkeep.network" 1000) (.none) 628 (A0j 56 0)),
 (635, A0E [vs "send" 1034, vs "Net.send" 1035, vs "/claim/cut.py" 1036, .int 416 0, .int 2 0, .int 0 0, .int 0 0, .int 3 0, .ref 630, .bool true, .int 181 0, .ref 631, .none, .ref 632, .ref 633, .ref 634, .int 1042 0, .int 416 0, vs "/claim/cut.py" 1043]),
 (636, fnO "Net.send" (vs "raftkeep.network" 1000) (.none) 635 (A0j 56 1)),
 (649, A0E [vs "fate_of" 1053, vs "Net.fate_of" 1054, vs "/claim/cut.py" 1055, .int 437 0, .int 2 0, .int 0 0, .int 0 0, .int 3 0, .ref 644, .bool true, .int 181 0, .ref 645, .none, .ref 646, .ref 647, .ref 648, .int 1058 0, .int 437 0, vs "/claim/cut.py" 1059]),
 (650, fnO "Net.fate_of" (vs "raftkeep.network" 1000) (.none) 649 (A0j 56 3)),
 (656, A0E [vs "packed" 1061, vs "Net.packed" 1062, vs "/claim/cut.py" 1063, .int 442 0, .int 3 0, .int 0 0, .int 0 0, .int 3 0, .ref 651, .bool true, .int 181 0, .ref 652, .none, .ref 653, .ref 654, .ref 655, .int 1067 0, .int 442 0, vs "/claim/cut.py" 1068])]
noncomputable def ka4 : List Addr := [586, 595, 596, 598, 599, 628, 629, 635, 636, 649, 650, 656]
noncomputable def kc5 (P : Params) : Frag := [
 (657, fnO "Net.packed" (vs "raftkeep.network" 1000) (.none) 656 (A0j 56 4)),
 (663, A0E [vs "again" 1070, vs "Net.again" 1071, vs "/claim/cut.py" 1072, .int 447 0, .int 2 0, .int 0 0, .int 0 0, .int 3 0, .ref 658, .bool true, .int 181 0, .ref 659, .none, .ref 660, .ref 661, .ref 662, .int 1079 0, .int 447 0, vs "/claim/cut.py" 1080]),
 (664, fnO "Net.again" (vs "raftkeep.network" 1000) (.none) 663 (A0j 56 5)),
 (670, A0E [vs "ripen" 1082, vs "Net.ripen" 1083, vs "/claim/cut.py" 1084, .int 453 0, .int 2 0, .int 0 0, .int 0 0, .int 3 0, .ref 665, .bool true, .int 181 0, .ref 666, .none, .ref 667, .ref 668, .ref 669, .int 1089 0, .int 453 0, vs "/claim/cut.py" 1090]),
 (671, fnO "Net.ripen" (vs "raftkeep.network" 1000) (.none) 670 (A0j 56 6)),
 (677, A0E [vs "size" 1092, vs "Net.size" 1093, vs "/claim/cut.py" 1094, .int 462 0, .int 1 0, .int 0 0, .int 0 0, .int 3 0, .ref 672, .bool true, .int 181 0, .ref 673, .none, .ref 674, .ref 675, .ref 676, .int 1096 0, .int 462 0, vs "/claim/cut.py" 1097]),
 (678, fnO "Net.size" (vs "raftkeep.network" 1000) (.none) 677 (A0j 56 7)),
 (684, A0E [vs "take" 1099, vs "Net.take" 1100, vs "/claim/cut.py" 1101, .int 465 0, .int 2 0, .int 0 0, .int 0 0, .int 3 0, .ref 679, .bool true, .int 181 0, .ref 680, .none, .ref 681, .ref 682, .ref 683, .int 1107 0, .int 465 0, vs "/claim/cut.py" 1108]),
 (685, fnO "Net.take" (vs "raftkeep.network" 1000) (.none) 684 (A0j 56 8)),
 (696, A0E [vs "drop_for" 1117, vs "Net.drop_for" 1118, vs "/claim/cut.py" 1119, .int 481 0, .int 2 0, .int 0 0, .int 0 0, .int 3 0, .ref 693, .bool true, .int 181 0, .ref 694, .none, .none, .none, .ref 695, .int 1120 0, .int 481 0, vs "/claim/cut.py" 1121]),
 (697, fnO "Net.drop_for" (vs "raftkeep.network" 1000) (.none) 696 (A0j 56 10)),
 (703, A0E [vs "quiet" 1123, vs "Net.quiet" 1124, vs "/claim/cut.py" 1125, .int 487 0, .int 1 0, .int 0 0, .int 0 0, .int 3 0, .ref 698, .bool true, .int 181 0, .ref 699, .none, .ref 700, .ref 701, .ref 702, .int 1127 0, .int 487 0, vs "/claim/cut.py" 1128])]
noncomputable def ka5 : List Addr := [657, 663, 664, 670, 671, 677, 678, 684, 685, 696, 697, 703]
noncomputable def kc6 (P : Params) : Frag := [
 (704, fnO "Net.quiet" (vs "raftkeep.network" 1000) (.none) 703 (A0j 56 11)),
 (710, A0E [vs "cut" 1130, vs "Net.cut" 1131, vs "/claim/cut.py" 1132, .int 490 0, .int 3 0, .int 0 0, .int 0 0, .int 3 0, .ref 705, .bool true, .int 181 0, .ref 706, .none, .ref 707, .ref 708, .ref 709, .int 1136 0, .int 490 0, vs "/claim/cut.py" 1137]),
 (711, fnO "Net.cut" (vs "raftkeep.network" 1000) (.none) 710 (A0j 56 12)),
 (717, A0E [vs "cut_one" 1139, vs "Net.cut_one" 1140, vs "/claim/cut.py" 1141, .int 494 0, .int 3 0, .int 0 0, .int 0 0, .int 3 0, .ref 712, .bool true, .int 181 0, .ref 713, .none, .ref 714, .ref 715, .ref 716, .int 1145 0, .int 494 0, vs "/claim/cut.py" 1146]),
 (718, fnO "Net.cut_one" (vs "raftkeep.network" 1000) (.none) 717 (A0j 56 13)),
 (729, A0E [vs "heal" 1154, vs "Net.heal" 1155, vs "/claim/cut.py" 1156, .int 501 0, .int 1 0, .int 0 0, .int 0 0, .int 3 0, .ref 724, .bool true, .int 181 0, .ref 725, .none, .ref 726, .ref 727, .ref 728, .int 1158 0, .int 501 0, vs "/claim/cut.py" 1159]),
 (730, fnO "Net.heal" (vs "raftkeep.network" 1000) (.none) 729 (A0j 56 15)),
 (736, A0E [vs "calm" 1161, vs "Net.calm" 1162, vs "/claim/cut.py" 1163, .int 505 0, .int 1 0, .int 0 0, .int 0 0, .int 3 0, .ref 731, .bool true, .int 181 0, .ref 732, .none, .ref 733, .ref 734, .ref 735, .int 1165 0, .int 505 0, vs "/claim/cut.py" 1166]),
 (737, fnO "Net.calm" (vs "raftkeep.network" 1000) (.none) 736 (A0j 56 16)),
 (743, A0E [vs "linked" 1168, vs "Net.linked" 1169, vs "/claim/cut.py" 1170, .int 510 0, .int 3 0, .int 0 0, .int 0 0, .int 3 0, .ref 738, .bool true, .int 181 0, .ref 739, .none, .ref 740, .ref 741, .ref 742, .int 1175 0, .int 510 0, vs "/claim/cut.py" 1176]),
 (744, fnO "Net.linked" (vs "raftkeep.network" 1000) (.none) 743 (A0j 56 17)),
 (746, nsO P [ke "__module__" 1023 (vs "raftkeep.network" 1000), ke "__firstlineno__" 1027 (.int 404 1026), ke "__init__" 1033 (.ref 629), ke "send" 1044 (.ref 636), ke "send_all" 1052 (.ref 643), ke "fate_of" 1060 (.ref 650), ke "packed" 1069 (.ref 657), ke "again" 1081 (.ref 664), ke "ripen" 1091 (.ref 671), ke "size" 1098 (.ref 678), ke "take" 1109 (.ref 685), ke "peek_rows" 1116 (.ref 692), ke "drop_for" 1122 (.ref 697), ke "quiet" 1129 (.ref 704), ke "cut" 1138 (.ref 711), ke "cut_one" 1147 (.ref 718), ke "part" 1153 (.ref 723), ke "heal" 1160 (.ref 730), ke "calm" 1167 (.ref 737), ke "linked" 1177 (.ref 744), ke "__static_attributes__" 1186 (.ref 745), ke "__dict__" 1188 (.ref 748), ke "__weakref__" 1190 (.ref 749), ke "__doc__" 1191 (.none)] 4)]
noncomputable def ka6 : List Addr := [704, 710, 711, 717, 718, 729, 730, 736, 737, 743, 744, 746]
noncomputable def kc7 (P : Params) : Frag := [
 (747, B1M "Net" 747 746 [none, none, some (vs "Net" 1016), some (vs "Net" 1024), some (.builtin "object.__new__"), some (.bool true)]),
 (764, A0E [vs "__init__" 1216, vs "WriteBatch.__init__" 1217, vs "/claim/cut.py" 1218, .int 528 0, .int 1 0, .int 0 0, .int 0 0, .int 3 0, .ref 759, .bool true, .int 181 0, .ref 760, .none, .ref 761, .ref 762, .ref 763, .int 1220 0, .int 528 0, vs "/claim/cut.py" 1221]),
 (765, fnO "WriteBatch.__init__" (vs "raftkeep.keys" 1194) (.none) 764 (A0j 62 0)),
 (771, A0E [vs "put" 1223, vs "WriteBatch.put" 1224, vs "/claim/cut.py" 1225, .int 532 0, .int 3 0, .int 0 0, .int 0 0, .int 3 0, .ref 766, .bool true, .int 181 0, .ref 767, .none, .ref 768, .ref 769, .ref 770, .int 1229 0, .int 532 0, vs "/claim/cut.py" 1230]),
 (772, fnO "WriteBatch.put" (vs "raftkeep.keys" 1194) (.none) 771 (A0j 62 1)),
 (778, A0E [vs "delete" 1232, vs "WriteBatch.delete" 1233, vs "/claim/cut.py" 1234, .int 535 0, .int 2 0, .int 0 0, .int 0 0, .int 3 0, .ref 773, .bool true, .int 181 0, .ref 774, .none, .ref 775, .ref 776, .ref 777, .int 1237 0, .int 535 0, vs "/claim/cut.py" 1238]),
 (779, fnO "WriteBatch.delete" (vs "raftkeep.keys" 1194) (.none) 778 (A0j 62 2)),
 (785, A0E [vs "take_op" 1240, vs "WriteBatch.take_op" 1241, vs "/claim/cut.py" 1242, .int 538 0, .int 4 0, .int 0 0, .int 0 0, .int 3 0, .ref 780, .bool true, .int 181 0, .ref 781, .none, .ref 782, .ref 783, .ref 784, .int 1247 0, .int 538 0, vs "/claim/cut.py" 1248]),
 (786, fnO "WriteBatch.take_op" (vs "raftkeep.keys" 1194) (.none) 785 (A0j 62 3)),
 (799, A0E [vs "count" 1257, vs "WriteBatch.count" 1258, vs "/claim/cut.py" 1259, .int 547 0, .int 1 0, .int 0 0, .int 0 0, .int 3 0, .ref 794, .bool true, .int 181 0, .ref 795, .none, .ref 796, .ref 797, .ref 798, .int 1261 0, .int 547 0, vs "/claim/cut.py" 1262]),
 (800, fnO "WriteBatch.count" (vs "raftkeep.keys" 1194) (.none) 799 (A0j 62 5)),
 (820, A0E [vs "ops" 1282, vs "WriteBatch.ops" 1283, vs "/claim/cut.py" 1284, .int 557 0, .int 1 0, .int 0 0, .int 0 0, .int 3 0, .ref 815, .bool true, .int 181 0, .ref 816, .none, .ref 817, .ref 818, .ref 819, .int 1286 0, .int 557 0, vs "/claim/cut.py" 1287])]
noncomputable def ka7 : List Addr := [747, 764, 765, 771, 772, 778, 779, 785, 786, 799, 800, 820]
noncomputable def kc8 (P : Params) : Frag := [
 (821, fnO "WriteBatch.ops" (vs "raftkeep.keys" 1194) (.none) 820 (A0j 62 8)),
 (830, nsO P [ke "__module__" 1211 (vs "raftkeep.keys" 1194), ke "__firstlineno__" 1215 (.int 526 1214), ke "__init__" 1222 (.ref 765), ke "put" 1231 (.ref 772), ke "delete" 1239 (.ref 779), ke "take_op" 1249 (.ref 786), ke "clear" 1256 (.ref 793), ke "count" 1263 (.ref 800), ke "size" 1270 (.ref 807), ke "append" 1281 (.ref 814), ke "ops" 1288 (.ref 821), ke "encode" 1300 (.ref 828), ke "__static_attributes__" 1303 (.ref 829), ke "__dict__" 1305 (.ref 832), ke "__weakref__" 1307 (.ref 833), ke "__doc__" 1308 (.none)] 4),
 (831, B1M "WriteBatch" 831 830 [none, none, some (vs "WriteBatch" 1204), some (vs "WriteBatch" 1212), some (.builtin "object.__new__"), some (.bool true)]),
 (855, A0E [vs "__init__" 1363, vs "Command.__init__" 1364, vs "/claim/cut.py" 1365, .int 592 0, .int 7 0, .int 0 0, .int 0 0, .int 3 0, .ref 850, .bool true, .int 181 0, .ref 851, .none, .ref 852, .ref 853, .ref 854, .int 1373 0, .int 592 0, vs "/claim/cut.py" 1374]),
 (856, fnO "Command.__init__" (vs "raftkeep.commands" 1319) (.none) 855 (A0j 80 0)),
 (869, A0E [vs "encode" 1383, vs "Command.encode" 1384, vs "/claim/cut.py" 1385, .int 603 0, .int 1 0, .int 0 0, .int 0 0, .int 3 0, .ref 864, .bool true, .int 181 0, .ref 865, .none, .ref 866, .ref 867, .ref 868, .int 1388 0, .int 603 0, vs "/claim/cut.py" 1389]),
 (870, fnO "Command.encode" (vs "raftkeep.commands" 1319) (.none) 869 (A0j 80 2)),
 (872, nsO P [ke "__module__" 1358 (vs "raftkeep.commands" 1319), ke "__firstlineno__" 1362 (.int 590 1361), ke "__init__" 1375 (.ref 856), ke "row" 1382 (.ref 863), ke "encode" 1390 (.ref 870), ke "__static_attributes__" 1397 (.ref 871), ke "__dict__" 1399 (.ref 874), ke "__weakref__" 1401 (.ref 875), ke "__doc__" 1402 (.none)] 4),
 (873, B1M "Command" 873 872 [none, none, some (vs "Command" 1351), some (vs "Command" 1359), some (.builtin "object.__new__"), some (.bool true)]),
 (883, A0E [vs "put_maybe" 1405, vs "put_maybe" 1406, vs "/claim/cut.py" 1407, .int 617 0, .int 2 0, .int 0 0, .int 0 0, .int 3 0, .ref 878, .bool true, .int 181 0, .ref 879, .none, .ref 880, .ref 881, .ref 882, .int 1410 0, .int 617 0, vs "/claim/cut.py" 1411]),
 (884, fnO "put_maybe" (vs "raftkeep.commands" 1319) (.none) 883 (A0T 81)),
 (890, A0E [vs "take_maybe" 1413, vs "take_maybe" 1414, vs "/claim/cut.py" 1415, .int 621 0, .int 1 0, .int 0 0, .int 0 0, .int 3 0, .ref 885, .bool true, .int 181 0, .ref 886, .none, .ref 887, .ref 888, .ref 889, .int 1417 0, .int 621 0, vs "/claim/cut.py" 1418])]
noncomputable def ka8 : List Addr := [821, 830, 831, 855, 856, 869, 870, 872, 873, 883, 884, 890]
noncomputable def kc9 (P : Params) : Frag := [
 (891, fnO "take_maybe" (vs "raftkeep.commands" 1319) (.none) 890 (A0T 82)),
 (897, A0E [vs "decode_command" 1420, vs "decode_command" 1421, vs "/claim/cut.py" 1422, .int 625 0, .int 1 0, .int 0 0, .int 0 0, .int 3 0, .ref 892, .bool true, .int 181 0, .ref 893, .none, .ref 894, .ref 895, .ref 896, .int 1431 0, .int 625 0, vs "/claim/cut.py" 1432]),
 (898, fnO "decode_command" (vs "raftkeep.commands" 1319) (.none) 897 (A0T 83)),
 (904, A0E [vs "make_reply" 1434, vs "make_reply" 1435, vs "/claim/cut.py" 1436, .int 640 0, .int 2 0, .int 0 0, .int 0 0, .int 3 0, .ref 899, .bool true, .int 181 0, .ref 900, .none, .ref 901, .ref 902, .ref 903, .int 1440 0, .int 640 0, vs "/claim/cut.py" 1441]),
 (905, fnO "make_reply" (vs "raftkeep.commands" 1319) (.none) 904 (A0T 84)),
 (911, A0E [vs "data_key" 1443, vs "data_key" 1444, vs "/claim/cut.py" 1445, .int 645 0, .int 1 0, .int 0 0, .int 0 0, .int 3 0, .ref 906, .bool true, .int 181 0, .ref 907, .none, .ref 908, .ref 909, .ref 910, .int 1447 0, .int 645 0, vs "/claim/cut.py" 1448]),
 (912, fnO "data_key" (vs "raftkeep.commands" 1319) (.none) 911 (A0T 85)),
 (918, A0E [vs "session_key" 1450, vs "session_key" 1451, vs "/claim/cut.py" 1452, .int 647 0, .int 1 0, .int 0 0, .int 0 0, .int 3 0, .ref 913, .bool true, .int 181 0, .ref 914, .none, .ref 915, .ref 916, .ref 917, .int 1455 0, .int 647 0, vs "/claim/cut.py" 1456]),
 (919, fnO "session_key" (vs "raftkeep.commands" 1319) (.none) 918 (A0T 86)),
 (925, A0E [vs "client_of" 1458, vs "client_of" 1459, vs "/claim/cut.py" 1460, .int 650 0, .int 1 0, .int 0 0, .int 0 0, .int 3 0, .ref 920, .bool true, .int 181 0, .ref 921, .none, .ref 922, .ref 923, .ref 924, .int 1464 0, .int 650 0, vs "/claim/cut.py" 1465]),
 (926, fnO "client_of" (vs "raftkeep.commands" 1319) (.none) 925 (A0T 87)),
 (932, A0E [vs "encode_session" 1467, vs "encode_session" 1468, vs "/claim/cut.py" 1469, .int 655 0, .int 3 0, .int 0 0, .int 0 0, .int 3 0, .ref 927, .bool true, .int 181 0, .ref 928, .none, .ref 929, .ref 930, .ref 931, .int 1474 0, .int 655 0, vs "/claim/cut.py" 1475])]
noncomputable def ka9 : List Addr := [891, 897, 898, 904, 905, 911, 912, 918, 919, 925, 926, 932]
noncomputable def kc10 (P : Params) : Frag := [
 (933, fnO "encode_session" (vs "raftkeep.commands" 1319) (.none) 932 (A0T 88)),
 (939, A0E [vs "decode_session" 1477, vs "decode_session" 1478, vs "/claim/cut.py" 1479, .int 661 0, .int 1 0, .int 0 0, .int 0 0, .int 3 0, .ref 934, .bool true, .int 181 0, .ref 935, .none, .ref 936, .ref 937, .ref 938, .int 1485 0, .int 661 0, vs "/claim/cut.py" 1486]),
 (940, fnO "decode_session" (vs "raftkeep.commands" 1319) (.none) 939 (A0T 89)),
 (953, A0E [vs "__init__" 1500, vs "Machine.__init__" 1501, vs "/claim/cut.py" 1502, .int 670 0, .int 2 0, .int 0 0, .int 0 0, .int 3 0, .ref 948, .bool true, .int 181 0, .ref 949, .none, .ref 950, .ref 951, .ref 952, .int 1505 0, .int 670 0, vs "/claim/cut.py" 1506]),
 (954, fnO "Machine.__init__" (vs "raftkeep.commands" 1319) (.none) 953 (A0j 90 0)),
 (974, A0E [vs "put_applied" 1522, vs "Machine.put_applied" 1523, vs "/claim/cut.py" 1524, .int 685 0, .int 5 0, .int 0 0, .int 0 0, .int 3 0, .ref 969, .bool true, .int 181 0, .ref 970, .none, .ref 971, .ref 972, .ref 973, .int 1531 0, .int 685 0, vs "/claim/cut.py" 1532]),
 (975, fnO "Machine.put_applied" (vs "raftkeep.commands" 1319) (.none) 974 (A0j 90 3)),
 (988, A0E [vs "apply" 1544, vs "Machine.apply" 1545, vs "/claim/cut.py" 1546, .int 695 0, .int 3 0, .int 0 0, .int 0 0, .int 3 0, .ref 983, .bool true, .int 181 0, .ref 984, .none, .ref 985, .ref 986, .ref 987, .int 1554 0, .int 695 0, vs "/claim/cut.py" 1555]),
 (989, fnO "Machine.apply" (vs "raftkeep.commands" 1319) (.none) 988 (A0j 90 5)),
 (995, A0E [vs "command_of" 1557, vs "Machine.command_of" 1558, vs "/claim/cut.py" 1559, .int 715 0, .int 2 0, .int 0 0, .int 0 0, .int 3 0, .ref 990, .bool true, .int 181 0, .ref 991, .none, .ref 992, .ref 993, .ref 994, .int 1562 0, .int 715 0, vs "/claim/cut.py" 1563]),
 (996, fnO "Machine.command_of" (vs "raftkeep.commands" 1319) (.none) 995 (A0j 90 6)),
 (1002, A0E [vs "do_command" 1565, vs "Machine.do_command" 1566, vs "/claim/cut.py" 1567, .int 723 0, .int 3 0, .int 0 0, .int 0 0, .int 3 0, .ref 997, .bool true, .int 181 0, .ref 998, .none, .ref 999, .ref 1000, .ref 1001, .int 1575 0, .int 723 0, vs "/claim/cut.py" 1576])]
noncomputable def ka10 : List Addr := [933, 939, 940, 953, 954, 974, 975, 988, 989, 995, 996, 1002]
noncomputable def kc11 (P : Params) : Frag := [
 (1003, fnO "Machine.do_command" (vs "raftkeep.commands" 1319) (.none) 1002 (A0j 90 7)),
 (1009, A0E [vs "do_effect" 1578, vs "Machine.do_effect" 1579, vs "/claim/cut.py" 1580, .int 736 0, .int 3 0, .int 0 0, .int 0 0, .int 3 0, .ref 1004, .bool true, .int 181 0, .ref 1005, .none, .ref 1006, .ref 1007, .ref 1008, .int 1587 0, .int 736 0, vs "/claim/cut.py" 1588]),
 (1010, fnO "Machine.do_effect" (vs "raftkeep.commands" 1319) (.none) 1009 (A0j 90 8)),
 (1016, A0E [vs "get" 1590, vs "Machine.get" 1591, vs "/claim/cut.py" 1592, .int 757 0, .int 2 0, .int 0 0, .int 0 0, .int 3 0, .ref 1011, .bool true, .int 181 0, .ref 1012, .none, .ref 1013, .ref 1014, .ref 1015, .int 1595 0, .int 757 0, vs "/claim/cut.py" 1596]),
 (1017, fnO "Machine.get" (vs "raftkeep.commands" 1319) (.none) 1016 (A0j 90 9)),
 (1023, A0E [vs "session_row" 1598, vs "Machine.session_row" 1599, vs "/claim/cut.py" 1600, .int 760 0, .int 2 0, .int 0 0, .int 0 0, .int 3 0, .ref 1018, .bool true, .int 181 0, .ref 1019, .none, .ref 1020, .ref 1021, .ref 1022, .int 1604 0, .int 760 0, vs "/claim/cut.py" 1605]),
 (1024, fnO "Machine.session_row" (vs "raftkeep.commands" 1319) (.none) 1023 (A0j 90 10)),
 (1037, A0E [vs "rows" 1618, vs "Machine.rows" 1619, vs "/claim/cut.py" 1620, .int 772 0, .int 1 0, .int 0 0, .int 0 0, .int 3 0, .ref 1032, .bool true, .int 181 0, .ref 1033, .none, .ref 1034, .ref 1035, .ref 1036, .int 1625 0, .int 772 0, vs "/claim/cut.py" 1626]),
 (1038, fnO "Machine.rows" (vs "raftkeep.commands" 1319) (.none) 1037 (A0j 90 12)),
 (1044, A0E [vs "sessions" 1628, vs "Machine.sessions" 1629, vs "/claim/cut.py" 1630, .int 778 0, .int 1 0, .int 0 0, .int 0 0, .int 3 0, .ref 1039, .bool true, .int 181 0, .ref 1040, .none, .ref 1041, .ref 1042, .ref 1043, .int 1638 0, .int 778 0, vs "/claim/cut.py" 1639]),
 (1045, fnO "Machine.sessions" (vs "raftkeep.commands" 1319) (.none) 1044 (A0j 90 13)),
 (1051, A0E [vs "row" 1641, vs "Machine.row" 1642, vs "/claim/cut.py" 1643, .int 785 0, .int 1 0, .int 0 0, .int 0 0, .int 3 0, .ref 1046, .bool true, .int 181 0, .ref 1047, .none, .ref 1048, .ref 1049, .ref 1050, .int 1645 0, .int 785 0, vs "/claim/cut.py" 1646])]
noncomputable def ka11 : List Addr := [1003, 1009, 1010, 1016, 1017, 1023, 1024, 1037, 1038, 1044, 1045, 1051]
noncomputable def kc12 (P : Params) : Frag := [
 (1052, fnO "Machine.row" (vs "raftkeep.commands" 1319) (.none) 1051 (A0j 90 14)),
 (1054, nsO P [ke "__module__" 1495 (vs "raftkeep.commands" 1319), ke "__firstlineno__" 1499 (.int 668 1498), ke "__init__" 1507 (.ref 954), ke "load" 1514 (.ref 961), ke "mark_durable" 1521 (.ref 968), ke "put_applied" 1533 (.ref 975), ke "begin" 1543 (.ref 982), ke "apply" 1556 (.ref 989), ke "command_of" 1564 (.ref 996), ke "do_command" 1577 (.ref 1003), ke "do_effect" 1589 (.ref 1010), ke "get" 1597 (.ref 1017), ke "session_row" 1606 (.ref 1024), ke "session" 1617 (.ref 1031), ke "rows" 1627 (.ref 1038), ke "sessions" 1640 (.ref 1045), ke "row" 1647 (.ref 1052), ke "__static_attributes__" 1654 (.ref 1053), ke "__dict__" 1656 (.ref 1056), ke "__weakref__" 1658 (.ref 1057), ke "__doc__" 1659 (.none)] 4),
 (1055, B1M "Machine" 1055 1054 [none, none, some (vs "Machine" 1488), some (vs "Machine" 1496), some (.builtin "object.__new__"), some (.bool true)]),
 (1065, A0E [vs "same_maybe" 1662, vs "same_maybe" 1663, vs "/claim/cut.py" 1664, .int 787 0, .int 2 0, .int 0 0, .int 0 0, .int 3 0, .ref 1060, .bool true, .int 181 0, .ref 1061, .none, .ref 1062, .ref 1063, .ref 1064, .int 1667 0, .int 787 0, vs "/claim/cut.py" 1668]),
 (1066, fnO "same_maybe" (vs "raftkeep.commands" 1319) (.none) 1065 (A0T 91)),
 (1079, A0E [vs "__init__" 1682, vs "MemStore.__init__" 1683, vs "/claim/cut.py" 1684, .int 793 0, .int 1 0, .int 0 0, .int 0 0, .int 3 0, .ref 1074, .bool true, .int 181 0, .ref 1075, .none, .ref 1076, .ref 1077, .ref 1078, .int 1686 0, .int 793 0, vs "/claim/cut.py" 1687]),
 (1080, fnO "MemStore.__init__" (vs "raftkeep.commands" 1319) (.none) 1079 (A0j 92 0)),
 (1086, A0E [vs "write" 1689, vs "MemStore.write" 1690, vs "/claim/cut.py" 1691, .int 799 0, .int 3 0, .int 0 0, .int 0 0, .int 3 0, .ref 1081, .bool true, .int 181 0, .ref 1082, .none, .ref 1083, .ref 1084, .ref 1085, .int 1695 0, .int 799 0, vs "/claim/cut.py" 1696]),
 (1087, fnO "MemStore.write" (vs "raftkeep.commands" 1319) (.none) 1086 (A0j 92 1)),
 (1093, A0E [vs "take" 1698, vs "MemStore.take" 1699, vs "/claim/cut.py" 1700, .int 807 0, .int 2 0, .int 0 0, .int 0 0, .int 3 0, .ref 1088, .bool true, .int 181 0, .ref 1089, .none, .ref 1090, .ref 1091, .ref 1092, .int 1706 0, .int 807 0, vs "/claim/cut.py" 1707]),
 (1094, fnO "MemStore.take" (vs "raftkeep.commands" 1319) (.none) 1093 (A0j 92 2)),
 (1114, A0E [vs "get" 1723, vs "MemStore.get" 1724, vs "/claim/cut.py" 1725, .int 822 0, .int 2 0, .int 0 0, .int 0 0, .int 3 0, .ref 1109, .bool true, .int 181 0, .ref 1110, .none, .ref 1111, .ref 1112, .ref 1113, .int 1728 0, .int 822 0, vs "/claim/cut.py" 1729])]
noncomputable def ka12 : List Addr := [1052, 1054, 1055, 1065, 1066, 1079, 1080, 1086, 1087, 1093, 1094, 1114]
noncomputable def kc13 (P : Params) : Frag := [
 (1115, fnO "MemStore.get" (vs "raftkeep.commands" 1319) (.none) 1114 (A0j 92 5)),
 (1121, A0E [vs "scan" 1731, vs "MemStore.scan" 1732, vs "/claim/cut.py" 1733, .int 825 0, .int 4 0, .int 0 0, .int 0 0, .int 3 0, .ref 1116, .bool true, .int 181 0, .ref 1117, .none, .ref 1118, .ref 1119, .ref 1120, .int 1740 0, .int 825 0, vs "/claim/cut.py" 1741]),
 (1122, fnO "MemStore.scan" (vs "raftkeep.commands" 1319) (.none) 1121 (A0j 92 6)),
 (1131, nsO P [ke "__module__" 1677 (vs "raftkeep.commands" 1319), ke "__firstlineno__" 1681 (.int 791 1680), ke "__init__" 1688 (.ref 1080), ke "write" 1697 (.ref 1087), ke "take" 1708 (.ref 1094), ke "sync" 1715 (.ref 1101), ke "is_durable" 1722 (.ref 1108), ke "get" 1730 (.ref 1115), ke "scan" 1742 (.ref 1122), ke "cut" 1753 (.ref 1129), ke "__static_attributes__" 1758 (.ref 1130), ke "__dict__" 1760 (.ref 1133), ke "__weakref__" 1762 (.ref 1134), ke "__doc__" 1763 (.none)] 4),
 (1132, B1M "MemStore" 1132 1131 [none, none, some (vs "MemStore" 1670), some (vs "MemStore" 1678), some (.builtin "object.__new__"), some (.bool true)]),
 (1142, A0E [vs "_law_kinds" 1768, vs "_law_kinds" 1769, vs "/claim/cut.py" 1770, .int 845 0, .int 0 0, .int 0 0, .int 0 0, .int 3 0, .ref 1137, .bool true, .int 181 0, .ref 1138, .none, .ref 1139, .ref 1140, .ref 1141, .int 1771 0, .int 845 0, vs "/claim/cut.py" 1772]),
 (1143, fnO "_law_kinds" (vs "law_nz0379_01" 1766) (.none) 1142 (A0T 94)),
 (1149, A0E [vs "_law_draw" 1774, vs "_law_draw" 1775, vs "/claim/cut.py" 1776, .int 847 0, .int 2 0, .int 0 0, .int 0 0, .int 3 0, .ref 1144, .bool true, .int 181 0, .ref 1145, .none, .ref 1146, .ref 1147, .ref 1148, .int 1779 0, .int 847 0, vs "/claim/cut.py" 1780]),
 (1150, fnO "_law_draw" (vs "law_nz0379_01" 1766) (.none) 1149 (A0T 95)),
 (1156, A0E [vs "_law_maybe" 1782, vs "_law_maybe" 1783, vs "/claim/cut.py" 1784, .int 849 0, .int 1 0, .int 0 0, .int 0 0, .int 3 0, .ref 1151, .bool true, .int 181 0, .ref 1152, .none, .ref 1153, .ref 1154, .ref 1155, .int 1786 0, .int 849 0, vs "/claim/cut.py" 1787]),
 (1157, fnO "_law_maybe" (vs "law_nz0379_01" 1766) (.none) 1156 (A0T 96)),
 (1163, A0E [vs "_law_send" 1789, vs "_law_send" 1790, vs "/claim/cut.py" 1791, .int 853 0, .int 3 0, .int 0 0, .int 0 0, .int 3 0, .ref 1158, .bool true, .int 181 0, .ref 1159, .none, .ref 1160, .ref 1161, .ref 1162, .int 1796 0, .int 853 0, vs "/claim/cut.py" 1797])]
noncomputable def ka13 : List Addr := [1115, 1121, 1122, 1131, 1132, 1142, 1143, 1149, 1150, 1156, 1157, 1163]
noncomputable def kc14 (P : Params) : Frag := [
 (1164, fnO "_law_send" (vs "law_nz0379_01" 1766) (.none) 1163 (A0T 97)),
 (1170, A0E [vs "_law_hand" 1799, vs "_law_hand" 1800, vs "/claim/cut.py" 1801, .int 858 0, .int 7 0, .int 0 0, .int 0 0, .int 3 0, .ref 1165, .bool true, .int 181 0, .ref 1166, .none, .ref 1167, .ref 1168, .ref 1169, .int 1813 0, .int 858 0, vs "/claim/cut.py" 1814]),
 (1171, fnO "_law_hand" (vs "law_nz0379_01" 1766) (.none) 1170 (A0T 98))]
noncomputable def ka14 : List Addr := [1164, 1170, 1171]
noncomputable def kf (P : Params) : Frag := kc0 P ++ (kc1 P ++ (kc2 P ++ (kc3 P ++ (kc4 P ++ (kc5 P ++ (kc6 P ++ (kc7 P ++ (kc8 P ++ (kc9 P ++ (kc10 P ++ (kc11 P ++ (kc12 P ++ (kc13 P ++ (kc14 P))))))))))))))
noncomputable def ka : List Addr := ka0 ++ (ka1 ++ (ka2 ++ (ka3 ++ (ka4 ++ (ka5 ++ (ka6 ++ (ka7 ++ (ka8 ++ (ka9 ++ (ka10 ++ (ka11 ++ (ka12 ++ (ka13 ++ (ka14))))))))))))))
theorem A6g (P : Params) : ka = (kf P).map (·.1) := by kernel_rfl
end Mine
namespace Mine
noncomputable abbrev A0e := List (Str × Option Value)
noncomputable def asc (vs : A0e) : Str → Option Value := fun y => (vs.lookup y).join
inductive LObj where
 | inst (C d : Addr)
 | flds (fs : List (Str × Value))
 | list (vs : List Value)
 | tup (vs : List Value)
 | ba (b : Array UInt8)
 | ns (vs : A0e)
 | cell (v : Option Value)
 | fob (T : String) (vs : Array Value)
 | raw (o : Obj)
 | bdict (w : World) (kvs : List (List UInt8 × Value))
noncomputable abbrev Led := List (Addr × LObj)
noncomputable abbrev B9B (es : List DictEntry) (n : Nat) : Obj := dictOf es n
inductive FldsAre : List DictEntry → List (Str × Value) → Prop
 | nil : FldsAre [] []
 | cons {hs : Int} {x : Str} {t : Tok} {v : Value} {es fs} : FldsAre es fs → FldsAre (⟨hs, .str x t, v⟩ :: es) ((x, v) :: fs)
noncomputable def LObj.Is : LObj → Obj → Prop
 | .inst C d, o => o = instObj C d
 | .flds fs, o => ∃ es n, o = dictOf es n ∧ FldsAre es fs ∧ (fs.map (·.1)).Nodup ∧ fs.length ≤ 100
 | .list vs, o => ∃ n, o = { cls := .type "list", data := .seq vs.toArray n }
 | .tup vs, o => ∃ n, o = { cls := .type "tuple", data := .seq vs.toArray n }
 | .ba b, o => o = { cls := .type "bytearray", data := .bytearray b 0 }
 | .ns vs, o => ∃ es ep, o.data = .dict es ep ∧ StrKeys es ∧ (∀ n, nsFind es n = asc vs n)
 | .cell v, o => o.data = .cell v
 | .fob T vs, o => o.cls = .type T ∧ o.data = .fields vs
 | .raw o', o => o = o'
 | .bdict w kvs, o => o.IsDictOf (bytesKind pw w) kvs
inductive Real : Led → List (Addr × Obj) → Prop
 | nil : Real [] []
 | cons {a lo o led news} : LObj.Is lo o → Real led news → Real ((a, lo) :: led) ((a, o) :: news)
noncomputable def A7x : Code → Bool
 | .builtin id _ => Builtin.Bytes.decodersThatHold.contains id
 | _ => false
noncomputable def B3D (G : Ctx) : Prop := ∀ x ∈ G.below, A7x x.1 = false
noncomputable def B8q (G : Ctx) : Prop := A7x G.code = false ∧ B3D G
noncomputable def wpM {α : Type} (nd : Bool) (M : Model) (A : Around) (t : Sem α) (Q : α → Shared → Prop) (E : Value → Shared → Prop) (s : Shared) : Prop :=
 ∀ G p, G.In A → (nd = true → B8q G) → Sem.wp M G t (fun a _ s' => Q a s') (fun e _ s' => E e s') p s
noncomputable def A3M (nd : Bool) (M : Model) (A : Around) (c : Code) (R : Result → Shared → Prop) (s : Shared) : Prop :=
 ∀ G p, G.code = c → G.Below A → (nd = true → B3D G) → wpCode M G R p s
section
variable {α β : Type} {nd : Bool} {M : Model} {A : Around} {E : Value → Shared → Prop} {s : Shared} {t : Sem α} {Q : α → Shared → Prop}
theorem A0v (h : wpAny M A t Q E s) : wpM nd M A t Q E s := fun G p hG _ => h G p hG
theorem A9M (h : wpM false M A t Q E s) : wpAny M A t Q E s := fun G p hG => h G p hG nofun
theorem A8U {c : Code} {R : Result → Shared → Prop} (h : codeAny M A c R s) : A3M nd M A c R s := fun G p hc hG _ => h G p hc hG
theorem A2S {Q' : α → Shared → Prop} {E' : Value → Shared → Prop} (h : wpM nd M A t Q E s) (hQ : ∀ a s, Q a s → Q' a s) (hE : ∀ e s, E e s → E' e s) : wpM nd M A t Q' E' s :=
 fun G p hG hc => Sem.wp_mono M G t (fun a _ s => hQ a s) (fun e _ s => hE e s) p s (h G p hG hc)
theorem A9v {c : Code} {R R' : Result → Shared → Prop} (h : A3M nd M A c R s) (k : ∀ r s, R r s → R' r s) : A3M nd M A c R' s := fun G p hc hG hn => wpCode_mono k (h G p hc hG hn)
theorem A0f {m : Sem α} {f : α → Sem β} {Q : β → Shared → Prop} (h : wpM nd M A m (fun a s' => wpM nd M A (f a) Q E s') E s) : wpM nd M A (m >>= f) Q E s := fun G p hG hc => by
 rw [Sem.wp_bind']
 exact Sem.wp_mono M G m (fun a p' s' h' => h' G p' hG hc) (fun _ _ _ h' => h') p s (h G p hG hc)
theorem A2h {vs : List Value} (h : wpM nd M A t Q E s) : wpM nd M A (holding vs t) Q E s := fun G p hG hc => by rw [Sem.wp_holding]; exact h G p hG hc
theorem A8b {Q : Except Value α → Shared → Prop} (h : wpM nd M A t (fun a => Q (.ok a)) (fun e => Q (.error e)) s) : wpM nd M A t.attempt Q E s := fun G p hG hc => by rw [Sem.wp_attempt]; exact h G p hG hc
theorem A2Y {k : Value → Sem Unit} (h : wpM nd M A t Q (fun _ _ => False) s) : wpM nd M A (t.onRaise k) Q E s := fun G p hG hc => by
 rw [Sem.wp_onRaise]
 exact Sem.wp_mono M G t (fun _ _ _ h' => h') (fun e p' s' h' => h'.elim) p s (h G p hG hc)
theorem B1n {vs : List Value} (h : wpM nd M A t Q E s) : wpM nd M A (t.keep vs) Q E s := fun G p hG hc => by rw [Sem.wp_keep]; exact h G p hG hc
theorem A9L {c : Code} {Q : Flow → Shared → Prop} (h : A3M nd M A c (fun r s' => match r with | .ok f => Q f s' | .error e => E e s') s) : wpM nd M A (run c none) Q E s := fun G p hG hc => by
 rw [Sem.wp_run]
 refine h _ p rfl (hG.enter c none p nofun) fun z x hx => ?_
 cases hx with
 | head => exact (hc z).1
 | tail _ hx => exact (hc z).2 x hx
theorem A1E {c : Code} {Q : Value → Shared → Prop} (h : A3M nd M A c (fun r s' => match r with | .ok (.ret v) => Q v s' | .ok _ => False | .error e => E e s') s) : wpM nd M A (runValue c) Q E s := fun G p hG hc => by
 rw [Sem.wp_runValue]
 refine h _ p rfl (hG.enter c none p nofun) fun z x hx => ?_
 cases hx with
 | head => exact (hc z).1
 | tail _ hx => exact (hc z).2 x hx
theorem A1c {c : Code} {R : Result → Shared → Prop} (hd : A7x c = false)
  (h : wpM nd M (A.under c) (M.den c) (fun fin s' => match fin with | .done f => R (.ok f) s' | .again c' => c'.quiet = true ∧ A3M nd M A c' R s') (fun e s' => R (.error e) s') s) : A3M nd M A c R s := fun G p hc hG hn => by
 rw [wpCode_iff_wp, hc]
 refine Sem.wp_mono M G _ (fun fin p' s' h' => ?_) (fun _ _ _ h' => h') p s (h G p (hc ▸ hG.in) fun z => ⟨hc ▸ hd, hn z⟩)
 cases fin with
 | done f => exact h'
 | again c' => exact ⟨h'.1, h'.2 (G.goto c') p' rfl (hG.goto c') hn⟩
theorem A9x {c : Code} {R : Result → Shared → Prop} (hd : A7x c = false) (hq : c.quiet = true) (I : Nat → Shared → Prop)
  (turn : ∀ n s, I n s → wpM nd M (A.under c) (M.den c) (fun fin s' => match fin with | .done f => R (.ok f) s' | .again c' => (c' = c ∧ ∃ m, m < n ∧ I m s') ∨ (c'.quiet = true ∧ A3M nd M A c' R s')) (fun e s' => R (.error e) s') s)
  (n : Nat) (h : I n s) : A3M nd M A c R s := by
 induction n using Nat.strongRecOn generalizing s with
 | ind n ih =>
  refine A1c hd (A2S (turn n s h) (fun fin s' hf => ?_) fun _ _ h' => h')
  cases fin with
  | done f => exact hf
  | again c' =>
   rcases hf with ⟨rfl, m, hm, hI⟩ | hf
   ·exact ⟨hq, ih m hm hI⟩
   ·exact hf
end
structure Cx where
 nd : Bool
 w : World
 mean : ExcName → Option Value
 mg : Str → Option Value
 mb : Str → Option Value
 dp : Nat
 un : Nat
 gd : Option (List Code)
 cn : Str
 cs : Scope
 L : Addr
 a : Addr
 ccd : Value
 outer : List Env
 A₀ : Around
 base : Heap
 h₀ : Heap
 gens : Array GenState
 drawn : Drawn
 os : OsState
 gl : List Str
 cl : List (Str × Addr)
@[reducible] noncomputable def Cx.env (Γ : Cx) : Env := envX Γ.cn Γ.cs Γ.L Γ.a Γ.ccd Γ.cl
@[reducible] noncomputable def Cx.A (Γ : Cx) : Around := { handled := none, depth := Γ.dp, frames := some (Γ.env :: Γ.outer), guards := Γ.gd, units := Γ.un }
@[reducible] noncomputable def Cx.M (Γ : Cx) : Model := model pw Γ.w
noncomputable def TopR (mg mb : Str → Option Value) (h : Heap) : Prop := ∃ (p : Program) (loose : List Str), TopRead p loose mg mb h
theorem TopR.keeps {mg mb : Str → Option Value} {h h' : Heap} (T : TopR mg mb h) (hk : ∀ b o, h.get? b = some o → h'.get? b = some o) : TopR mg mb h' := by
 obtain ⟨p, l, T⟩ := T
 exact ⟨p, l, T.keeps hk⟩
theorem TopR.nolimit {mg mb : Str → Option Value} {h : Heap} (T : TopR mg mb h) : h.NoLimit := by
 obtain ⟨_, _, T⟩ := T
 exact T.nolimit
structure St (Γ : Cx) (h : Heap) (vs : A0e) (led : Led) : Prop where
 B : Below Γ.A₀ Γ.base Γ.outer Γ.h₀
 F : Fr Γ.h₀ Γ.L h (asc vs)
 X : (kf Γ.w.params).In Γ.h₀
 T : TopR Γ.mg Γ.mb Γ.h₀
 hk : Γ.cs.kind = .function
 N : ∃ news, Real led news ∧ News Γ.h₀ Γ.L h news
 nd : (led.map (·.1)).Nodup
 nv : (vs.map (·.1)).Nodup
 hl : ∀ x ∈ vs.map (·.1), Γ.cs.names.lookup x = some .local ∧ (x == ("__debug__" : Str)) = false
 hg : ∀ x ∈ Γ.gl, Γ.cs.names.lookup x = some .globalImplicit ∧ (x == ("__debug__" : Str)) = false
@[reducible] noncomputable def Cx.at (Γ : Cx) (h : Heap) (tk : Nat) : Shared := ⟨h, Γ.gens, Γ.drawn, tk, Γ.os⟩
@[reducible] noncomputable def NoE : Value → Shared → Prop := fun _ _ => False
noncomputable def Post {α : Type} (Γ : Cx) (Q : α → A0e → Led → Prop) : α → Shared → Prop :=
 fun a s' => ∃ h tk vs led, s' = Γ.at h tk ∧ St Γ h vs led ∧ Q a vs led
noncomputable def Run {α : Type} (Γ : Cx) (vs : A0e) (led : Led) (t : Sem α) (Q : α → A0e → Led → Prop) : Prop :=
 ∀ h tk, St Γ h vs led → wpM Γ.nd Γ.M Γ.A t (Post Γ Q) NoE (Γ.at h tk)
section
variable {α β : Type} {Γ : Cx} {vs : A0e} {led : Led} {h : Heap} {tk : Nat}
theorem Post.mk {Q : α → A0e → Led → Prop} {a : α} (S : St Γ h vs led) (q : Q a vs led) : Post Γ Q a (Γ.at h tk) := ⟨h, tk, vs, led, rfl, S, q⟩
theorem Run.use {t : Sem α} {P : α → A0e → Led → Prop} {Q : α → Shared → Prop} {E : Value → Shared → Prop} (H : Run Γ vs led t P) (S : St Γ h vs led)
  (k : ∀ a h' tk' vs' led', St Γ h' vs' led' → P a vs' led' → Q a (Γ.at h' tk')) : wpM Γ.nd Γ.M Γ.A t Q E (Γ.at h tk) :=
 A2S (H h tk S) (fun a s' ⟨h', tk', vs', led', e, S', q⟩ => e ▸ k a h' tk' vs' led' S' q) (fun _ _ x => x.elim)
theorem Run.leaf {t : Sem α} {Q : α → A0e → Led → Prop} (H : ∀ h tk, St Γ h vs led → wpAny Γ.M Γ.A t (Post Γ Q) NoE (Γ.at h tk)) : Run Γ vs led t Q := fun h tk S => A0v (H h tk S)
theorem Run.pure {a : α} {Q : α → A0e → Led → Prop} (q : Q a vs led) : Run Γ vs led (pure a) Q := Run.leaf fun _ _ S => wpAny_pure (Post.mk S q)
theorem Run.bind {m : Sem α} {f : α → Sem β} {Q : β → A0e → Led → Prop} (H : Run Γ vs led m fun a vs led => Run Γ vs led (f a) Q) : Run Γ vs led (m >>= f) Q :=
 fun _ _ S => A0f (H.use S fun _ h' tk' _ _ S' q => q h' tk' S')
theorem Run.mono {t : Sem α} {P Q : α → A0e → Led → Prop} (H : Run Γ vs led t P) (k : ∀ a vs led, P a vs led → Q a vs led) : Run Γ vs led t Q :=
 fun _ _ S => H.use S fun a _ _ _ _ S' q => Post.mk S' (k a _ _ q)
theorem Run.thn {m : Sem α} {f : α → Sem β} {P : α → A0e → Led → Prop} {Q : β → A0e → Led → Prop} (H : Run Γ vs led m P) (k : ∀ a vs led, P a vs led → Run Γ vs led (f a) Q) : Run Γ vs led (m >>= f) Q := Run.bind (H.mono k)
theorem Run.hold {l : List Value} {t : Sem α} {Q : α → A0e → Led → Prop} (H : Run Γ vs led t Q) : Run Γ vs led (holding l t) Q := fun h tk S => A2h (H h tk S)
theorem Run.stand {p : Pos} {f : Unit → Sem β} {Q : β → A0e → Led → Prop} (H : Run Γ vs led (f ()) Q) : Run Γ vs led (standAt p >>= f) Q := fun h tk S => A0f (A0v (wpAny_standAt (H h tk S)))
theorem Run.oper {l : List Value} {t : Sem Value} {Q : Value → A0e → Led → Prop} (H : Run Γ vs led t Q) : Run Γ vs led (operate l t) Q := fun h tk S G p hG hc => by rw [Sem.wp_operate]; exact H h tk S G p hG hc
theorem Run.rel {a b : List Value} {f : Unit → Sem β} {Q : β → A0e → Led → Prop} (H : Run Γ vs led (f ()) Q) : Run Γ vs led (release a b >>= f) Q := fun h tk S => A0f (A0v (wpAny_release (H h tk S)))
theorem Run.pb {a : α} {f : α → Sem β} {Q : β → A0e → Led → Prop} (H : Run Γ vs led (f a) Q) : Run Γ vs led (Pure.pure a >>= f) Q := fun h tk S => A0f (A0v (wpAny_pure (H h tk S)))
theorem Run.eqb {m : Sem α} {a : α} (e : m = Pure.pure a) {f : α → Sem β} {Q : β → A0e → Led → Prop} (H : Run Γ vs led (f a) Q) : Run Γ vs led (m >>= f) Q := by subst e; exact H.pb
theorem Run.keep {l : List Value} {t : Sem α} {Q : α → A0e → Led → Prop} (H : Run Γ vs led t Q) : Run Γ vs led (t.keep l) Q := fun h tk S => B1n (H h tk S)
theorem Run.onR {t : Sem α} {k : Value → Sem Unit} {Q : α → A0e → Led → Prop} (H : Run Γ vs led t Q) : Run Γ vs led (t.onRaise k) Q := fun h tk S => A2Y (A2S (H h tk S) (fun _ _ x => x) fun _ _ x => x)
theorem Run.att {t : Sem α} {Q : Except Value α → A0e → Led → Prop} (H : Run Γ vs led t fun a => Q (.ok a)) : Run Γ vs led t.attempt Q := fun h tk S => A8b (H.use S fun a h' tk' vs' led' S' q => Post.mk S' q)
noncomputable abbrev Cx.off (Γ : Cx) : Cx := { Γ with nd := false }
theorem St.off (S : St Γ h vs led) : St Γ.off h vs led := ⟨S.B, S.F, S.X, S.T, S.hk, S.N, S.nd, S.nv, S.hl, S.hg⟩
theorem St.on (S : St Γ.off h vs led) : St Γ h vs led := ⟨S.B, S.F, S.X, S.T, S.hk, S.N, S.nd, S.nv, S.hl, S.hg⟩
theorem Run.on {t : Sem α} {Q : α → A0e → Led → Prop} (H : Run Γ.off vs led t Q) : Run Γ vs led t Q := fun h tk S =>
 A2S (A0v (A9M (H h tk S.off))) (fun a s' ⟨h', tk', vs', led', e, S', q⟩ => ⟨h', tk', vs', led', e, S'.on, q⟩) fun _ _ x => x
theorem Run.useA {t : Sem α} {P : α → A0e → Led → Prop} {Q : α → Shared → Prop} {E : Value → Shared → Prop} (H : Run Γ.off vs led t P) (S : St Γ h vs led)
  (k : ∀ a h' tk' vs' led', St Γ h' vs' led' → P a vs' led' → Q a (Γ.at h' tk')) : wpAny Γ.M Γ.A t Q E (Γ.at h tk) :=
 A9M (A2S (H h tk S.off) (fun a s' ⟨h', tk', vs', led', e, S', q⟩ => e ▸ k a h' tk' vs' led' S'.on q) (fun _ _ x => x.elim))
end
end Mine
namespace Mine
inductive Upd1 (a : Addr) (lo lo' : LObj) : Led → Led → Prop
 | head {r} : Upd1 a lo lo' ((a, lo) :: r) ((a, lo') :: r)
 | tail {p r r'} : Upd1 a lo lo' r r' → Upd1 a lo lo' (p :: r) (p :: r')
theorem Upd1.mem {a : Addr} {lo lo' : LObj} {led led' : Led} (U : Upd1 a lo lo' led led') : (a, lo) ∈ led := by
 induction U with
 | head => exact .head _
 | tail _ ih => exact .tail _ ih
theorem Upd1.keys {a : Addr} {lo lo' : LObj} {led led' : Led} (U : Upd1 a lo lo' led led') : led'.map (·.1) = led.map (·.1) := by
 induction U with
 | head => rfl
 | tail _ ih => simp only [List.map_cons, ih]
inductive Ex (a : Addr) (lo : LObj) : Led → Led → Prop
 | head {r} : Ex a lo ((a, lo) :: r) r
 | tail {p r r'} : Ex a lo r r' → Ex a lo (p :: r) (p :: r')
theorem Ex.perm {a : Addr} {lo : LObj} {led r : Led} (e : Ex a lo led r) : led.Perm ((a, lo) :: r) := by
 induction e with
 | head => exact .refl _
 | tail _ ih => exact (ih.cons _).trans (.swap _ _ _)
theorem Real.keys {led : Led} {news : List (Addr × Obj)} (R : Real led news) : news.map (·.1) = led.map (·.1) := by
 induction R with
 | nil => rfl
 | cons _ _ ih => simp only [List.map_cons, ih]
theorem Real.get {led : Led} {news : List (Addr × Obj)} (R : Real led news) {a : Addr} {lo : LObj} (hm : (a, lo) ∈ led) : ∃ o, (a, o) ∈ news ∧ lo.Is o := by
 induction R with
 | nil => cases hm
 | cons h _ ih =>
  cases hm with
  | head => exact ⟨_, .head _, h⟩
  | tail _ hm => obtain ⟨o, h1, h2⟩ := ih hm; exact ⟨o, .tail _ h1, h2⟩
theorem Real.upd {led led' : Led} {news : List (Addr × Obj)} (R : Real led news) {a : Addr} {lo lo' : LObj} (U : Upd1 a lo lo' led led') {o' : Obj} (hi : lo'.Is o') :
  ∃ pre o post, news = pre ++ (a, o) :: post ∧ lo.Is o ∧ Real led' (pre ++ (a, o') :: post) := by
 induction U generalizing news with
 | head => cases R with | cons h R => exact ⟨[], _, _, rfl, h, .cons hi R⟩
 | tail _ ih => cases R with
  | cons h R =>
   obtain ⟨pre, o, post, e, h1, h2⟩ := ih R
   exact ⟨_ :: pre, o, post, by rw [e]; rfl, h1, .cons h h2⟩
theorem Real.perm {led led' : Led} {news : List (Addr × Obj)} (R : Real led news) (p : led.Perm led') : ∃ news', Real led' news' ∧ news.Perm news' := by
 induction p generalizing news with
 | nil => cases R; exact ⟨[], .nil, .refl _⟩
 | cons x _ ih => cases R with
  | cons h R => obtain ⟨n', R', p'⟩ := ih R; exact ⟨_, .cons h R', p'.cons _⟩
 | swap x y l => cases R with
  | cons h R => cases R with
   | cons h' R => exact ⟨_, .cons h' (.cons h R), .swap _ _ _⟩
 | trans _ _ ih1 ih2 =>
  obtain ⟨n1, R1, p1⟩ := ih1 R
  obtain ⟨n2, R2, p2⟩ := ih2 R1
  exact ⟨n2, R2, p1.trans p2⟩
theorem Real.drop {led : Led} {p : Addr × LObj} {news : List (Addr × Obj)} (R : Real (p :: led) news) : ∃ q news', news = q :: news' ∧ Real led news' := by
 cases R with | cons _ R => exact ⟨_, _, rfl, R⟩
theorem Real.app {l l' : Led} {n n' : List (Addr × Obj)} (R : Real l n) (R' : Real l' n') : Real (l ++ l') (n ++ n') := by
 induction R with
 | nil => exact R'
 | cons h _ ih => exact .cons h ih
section
variable {Γ : Cx} {h h' : Heap} {vs : A0e} {led led' : Led} {a : Addr} {lo lo' : LObj} {o' : Obj}
theorem St.get (S : St Γ h vs led) (hm : (a, lo) ∈ led) : ∃ o, h.get? a = some o ∧ lo.Is o ∧ a ≠ Γ.L ∧ Γ.h₀.get? a = none := by
 obtain ⟨news, R, N⟩ := S.N
 obtain ⟨o, h1, h2⟩ := R.get hm
 exact ⟨o, (N _ h1).1, h2, (N _ h1).2.1, (N _ h1).2.2⟩
theorem St.upd (S : St Γ h vs led) (U : Upd1 a lo lo' led led') (hs : Heap.SameBut a h h') (ho : h'.get? a = some o') (hi : lo'.Is o') : St Γ h' vs led' := by
 obtain ⟨news, R, N⟩ := S.N
 obtain ⟨pre, o, post, rfl, h1, R'⟩ := R.upd U hi
 have z := N (a, o) (List.mem_append.mpr (.inr (.head _)))
 have nd := S.nd
 rw [← R.keys, List.map_append, List.map_cons] at nd
 have nd' := List.nodup_append.mp nd
 have d1 : ∀ p ∈ pre, p.1 ≠ a := fun p hp e => nd'.2.2 p.1 (List.mem_map_of_mem hp) a (.head _) e
 have d2 : ∀ p ∈ post, p.1 ≠ a := fun p hp e => (List.nodup_cons.mp nd'.2.1).1 (by rw [← e]; exact List.mem_map_of_mem (f := (·.1)) hp)
 exact { B := S.B, F := S.F.change hs z.2.1 z.2.2, X := S.X, T := S.T, hk := S.hk, N := ⟨_, R', news_set N d1 d2 hs ho⟩, nd := by rw [U.keys]; exact S.nd, nv := S.nv, hl := S.hl, hg := S.hg }
theorem St.lt (S : St Γ h vs led) {p : Addr × LObj} (hp : p ∈ led) : p.1 < h.objs.size := by
 obtain ⟨o, ho, _⟩ := S.get (a := p.1) (lo := p.2) hp
 exact Heap.lt_size ho
theorem St.alloc (S : St Γ h vs led) {o : Obj} (hi : lo.Is o) (hf : o.isFreed = false) : St Γ (h.push o) vs ((h.objs.size, lo) :: led) := by
 obtain ⟨news, R, N⟩ := S.N
 refine { B := S.B, F := S.F.push o, X := S.X, T := S.T, hk := S.hk, N := ⟨_, .cons hi R, N.push S.F o hf⟩, nd := ?_, nv := S.nv, hl := S.hl, hg := S.hg }
 rw [List.map_cons, List.nodup_cons]
 refine ⟨fun hm => ?_, S.nd⟩
 obtain ⟨p, hp, e⟩ := List.mem_map.mp hm
 exact Nat.ne_of_lt (S.lt hp) e
theorem St.perm (S : St Γ h vs led) (p : led.Perm led') : St Γ h vs led' := by
 obtain ⟨news, R, N⟩ := S.N
 obtain ⟨n', R', p'⟩ := R.perm p
 exact { B := S.B, F := S.F, X := S.X, T := S.T, hk := S.hk, N := ⟨_, R', fun q hq => N q (p'.mem_iff.mpr hq)⟩, nd := (p.map _).nodup_iff.mp S.nd, nv := S.nv, hl := S.hl, hg := S.hg }
theorem St.drop {p : Addr × LObj} (S : St Γ h vs (p :: led)) : St Γ h vs led := by
 obtain ⟨news, R, N⟩ := S.N
 obtain ⟨q, n', rfl, R'⟩ := R.drop
 exact { B := S.B, F := S.F, X := S.X, T := S.T, hk := S.hk, N := ⟨_, R', fun q hq => N q (.tail _ hq)⟩, nd := (List.nodup_cons.mp S.nd).2, nv := S.nv, hl := S.hl, hg := S.hg }
theorem St.dropAll {l : Led} (S : St Γ h vs (l ++ led)) : St Γ h vs led := by
 induction l with
 | nil => exact S
 | cons p l ih => exact ih (St.drop S)
inductive VUpd (x : Str) (v : Value) : A0e → A0e → Prop
 | head {o r} : VUpd x v ((x, o) :: r) ((x, some v) :: r)
 | tail {p r r'} : VUpd x v r r' → VUpd x v (p :: r) (p :: r')
theorem VUpd.keys {x : Str} {v : Value} {vs vs' : A0e} (U : VUpd x v vs vs') : vs'.map (·.1) = vs.map (·.1) := by
 induction U with
 | head => rfl
 | tail _ ih => simp only [List.map_cons, ih]
theorem A2W (p : Str × Option Value) (vs : A0e) (y : Str) : asc (p :: vs) y = if y = p.1 then p.2 else asc vs y := by
 unfold asc
 rw [List.lookup_cons]
 by_cases h : y = p.1
 ·subst h; simp
 ·have : (y == p.1) = false := by simpa using h
  simp [this, h]
theorem VUpd.asc {x : Str} {v : Value} {vs vs' : A0e} (U : VUpd x v vs vs') (nd : (vs.map (·.1)).Nodup) : Mine.asc vs' = fun y => if y = x then some v else Mine.asc vs y := by
 induction U with
 | head => funext y; simp only [A2W]; split <;> simp_all
 | @tail p r r' U ih =>
  rw [List.map_cons, List.nodup_cons] at nd
  have hx : x ∈ r.map (·.1) := by
   clear ih nd
   induction U with
   | head => exact .head _
   | tail _ ih => exact .tail _ ih
  funext y
  rw [A2W, ih nd.2, A2W]
  by_cases h1 : y = p.1
  ·have : y ≠ x := fun e => nd.1 (by rw [← h1, e]; exact hx)
   rw [if_pos h1, if_neg this, if_pos h1]
  ·rw [if_neg h1, if_neg h1]
theorem B0S {x : Str} {o : Option Value} : ∀ {vs : A0e}, (vs.map (·.1)).Nodup → (x, o) ∈ vs → asc vs x = o
 | p :: r, nd, h => by
  rw [List.map_cons, List.nodup_cons] at nd
  rw [A2W]
  cases h with
  | head => rw [if_pos rfl]
  | tail _ h =>
   have : x ≠ p.1 := fun e => nd.1 (by rw [← e]; exact List.mem_map_of_mem (f := (·.1)) h)
   rw [if_neg this]; exact B0S nd.2 h
theorem St.setvar {vs' : A0e} {x : Str} {v : Value} (S : St Γ h vs led) (U : VUpd x v vs vs') (hn : h'.Ns Γ.L (fun y => if y = x then some v else asc vs y)) (hs : Heap.SameBut Γ.L h h') : St Γ h' vs' led := by
 obtain ⟨news, R, N⟩ := S.N
 exact { B := S.B, F := by rw [U.asc S.nv]; exact S.F.set hn hs, X := S.X, T := S.T, hk := S.hk, N := ⟨_, R, N.set hs⟩, nd := S.nd, nv := by rw [U.keys]; exact S.nv, hl := by rw [U.keys]; exact S.hl, hg := S.hg }
end
end Mine
namespace Mine
section fields
theorem FldsAre.length {es : List DictEntry} {fs : List (Str × Value)} (A : FldsAre es fs) : es.length = fs.length := by
 induction A with
 | nil => rfl
 | cons _ ih => simp only [List.length_cons, ih]
theorem A3x (x y : Str) (t : Tok) : (Value.str x t).isStr y = (x == y) := rfl
theorem A8T {es : List DictEntry} {fs : List (Str × Value)} {x : Str} {v : Value} (A : FldsAre es fs) (nd : (fs.map (·.1)).Nodup) (hm : (x, v) ∈ fs) : getL x es = some (some v) := by
 have : es.find? (·.key.isStr x) = some (es.find? (·.key.isStr x)).get! ∧ ((es.find? (·.key.isStr x)).get!).val = v := by
  induction A with
  | nil => cases hm
  | @cons hs y t u es fs A ih =>
   rw [List.map_cons, List.nodup_cons] at nd
   by_cases h : x = y
   ·subst h
    have hv : v = u := by
     cases hm with
     | head => rfl
     | tail _ hm => exact absurd (List.mem_map_of_mem (f := (·.1)) hm) nd.1
    subst hv
    simp [List.find?_cons, A3x]
   ·have hm' : (x, v) ∈ fs := by
     cases hm with
     | head => exact absurd rfl h
     | tail _ hm => exact hm
    have hb : (y == x) = false := by simpa using fun e : y = x => h e.symm
    simp only [List.find?_cons, A3x, hb]
    exact ih nd.2 hm'
 unfold getL
 rw [this.1]
 dsimp only
 rw [this.2]
theorem A7E {es : List DictEntry} {fs : List (Str × Value)} {x : Str} (A : FldsAre es fs) (hm : x ∉ fs.map (·.1)) : getL x es = some none := by
 have h1 : es.find? (·.key.isStr x) = none := by
  induction A with
  | nil => rfl
  | @cons hs y t u es fs A ih =>
   rw [List.map_cons, List.mem_cons, not_or] at hm
   have hb : (y == x) = false := by simpa using fun e : y = x => hm.1 e.symm
   simp only [List.find?_cons, A3x, hb]
   exact ih hm.2
 have h2 : es.any (·.refKey) = false := by
  clear h1 hm
  induction A with
  | nil => rfl
  | cons _ ih => simp only [List.any_cons, ih, Bool.or_false]; rfl
 unfold getL
 rw [h1]
 dsimp only
 rw [h2]; rfl
inductive FUpd (x : Str) (v : Value) : List (Str × Value) → List (Str × Value) → Prop
 | head {o r} : FUpd x v ((x, o) :: r) ((x, v) :: r)
 | tail {p r r'} : FUpd x v r r' → FUpd x v (p :: r) (p :: r')
theorem FUpd.keys {x : Str} {v : Value} {fs fs' : List (Str × Value)} (U : FUpd x v fs fs') : fs'.map (·.1) = fs.map (·.1) := by
 induction U with
 | head => rfl
 | tail _ ih => simp only [List.map_cons, ih]
theorem FUpd.mem {x : Str} {v : Value} {fs fs' : List (Str × Value)} (U : FUpd x v fs fs') : x ∈ fs.map (·.1) := by
 induction U with
 | head => exact .head _
 | tail _ ih => exact .tail _ ih
theorem B1w {x : Str} {v : Value} {fs fs' : List (Str × Value)} {hs : Int} {k : Value} (U : FUpd x v fs fs') : ∀ {es : List DictEntry}, FldsAre es fs → (fs.map (·.1)).Nodup → FldsAre (putL x hs k v es) fs' := by
 induction U with
 | head =>
  intro es A _
  cases A with
  | cons A =>
   simp only [putL, A3x, beq_self_eq_true, if_true]
   exact .cons A
 | tail U ih =>
  intro es A nd
  cases A with
  | @cons hs2 y t2 u es fs A =>
   rw [List.map_cons, List.nodup_cons] at nd
   have hb : (y == x) = false := by
    have := U.mem
    simpa using fun e : y = x => nd.1 (by rw [e]; exact this)
   simp only [putL, A3x, hb]
   exact .cons (ih A nd.2)
theorem A8E {x : Str} {v : Value} {hs : Int} {t : Tok} : ∀ {es : List DictEntry} {fs : List (Str × Value)}, FldsAre es fs → x ∉ fs.map (·.1) → FldsAre (putL x hs (.str x t) v es) (fs ++ [(x, v)])
 | _, _, .nil, _ => .cons .nil
 | _, _, .cons (x := y) A, hm => by
  rw [List.map_cons, List.mem_cons, not_or] at hm
  have hb : (y == x) = false := by simpa using fun e : y = x => hm.1 e.symm
  simp only [putL, A3x, hb]
  exact .cons (A8E A hm.2)
end fields
noncomputable def Fld (C : Addr) (name : Str) : Prop := ∀ P, plainGet (kf P) C name = true ∧ hasDictIn (kf P) C = true ∧ findIn (kf P) (.ref C) name = some none
noncomputable def A5x (C : Addr) : Prop := ∀ P, findIn (kf P) (.ref C) "__setattr__" = some (some (.builtin "object.__setattr__")) ∧ plainOver (kf P) C = true ∧ hasDictIn (kf P) C = true
noncomputable def A2X (C : Addr) (name : Str) (f : Addr) : Prop := ∀ P, plainGet (kf P) C name = true ∧ findIn (kf P) (.ref C) name = some (some (.ref f)) ∧ isFn (kf P) (.ref f) = true ∧ keepIn (kf P) (.ref f) = true
noncomputable def GV (x : Str) (v : Value) : Prop := ∀ P, nsIn (kf P) mainGlobals x = some (some v)
noncomputable def GB (x : Str) (v : Value) : Prop := (∀ P, nsIn (kf P) mainGlobals x = some none) ∧ bootBuiltins x = some v ∧ x ≠ "__name__"
section
variable {α β : Type} {Γ : Cx} {vs : A0e} {led : Led} {h : Heap} {tk : Nat}
theorem St.kin (S : St Γ h vs led) : (kf Γ.w.params).In h := S.X.keeps S.F.keep
theorem B3y {x : Str} {pos : Pos} {v : Value} {Q : Value → A0e → Led → Prop} (hm : (x, some v) ∈ vs) (q : Q v vs led) : Run Γ vs led (eval (.Name x pos) Γ.env) Q := Run.leaf fun h tk S =>
 wpAny_Name (wpAny_loadName_local S.hk (S.hl x (List.mem_map_of_mem (f := (·.1)) hm)).1 S.F.ns (B0S S.nv hm) (Post.mk S q)) (S.hl x (List.mem_map_of_mem (f := (·.1)) hm)).2
theorem B4Y {x : Str} {pos : Pos} {v : Value} {Q : Value → A0e → Led → Prop} (hx : x ∈ Γ.gl) (hv : GV x v) (q : Q v vs led) : Run Γ vs led (eval (.Name x pos) Γ.env) Q := Run.leaf fun h tk S => by
 have hk := S.hg x hx
 obtain ⟨_, _, T⟩ := S.T
 exact nameX_K S.F S.X T (hv _) (Post.mk S q) S.hk hk.1 hk.2
theorem B4Z {x : Str} {pos : Pos} {v : Value} {Q : Value → A0e → Led → Prop} (hx : x ∈ Γ.gl) (hv : GB x v) (q : Q v vs led) : Run Γ vs led (eval (.Name x pos) Γ.env) Q := Run.leaf fun h tk S => by
 have hk := S.hg x hx
 obtain ⟨_, _, T⟩ := S.T
 exact nameX_B S.F S.X T (hv.1 _) hv.2.1 hv.2.2 (Post.mk S q) S.hk hk.1 hk.2
theorem VUpd.mem {x : Str} {v : Value} {vs vs' : A0e} (U : VUpd x v vs vs') : x ∈ vs.map (·.1) := by
 induction U with
 | head => exact .head _
 | tail _ ih => exact .tail _ ih
theorem B1b {x : Str} {v : Value} {vs' : A0e} {Q : Unit → A0e → Led → Prop} (U : VUpd x v vs vs') (q : Q () vs' led) : Run Γ vs led (storeName Γ.env x v) Q := Run.leaf fun h tk S =>
 wpAny_storeName_local (S.hl x U.mem).1 S.F.ns (fun h' hn hs => Post.mk (S.setvar U hn hs) q)
  (by show (Γ.cs.kind == .class || (Γ.cs.kind == .module && Γ.L != mainGlobals)) = false; rw [S.hk]; rfl)
variable {env : Env}
theorem C0o {i : Int} {k pos} {Q : Value → A0e → Led → Prop} (q : ∀ t, Q (.int i t) vs led) : Run Γ vs led (eval (.Constant (.int i) k pos) env) Q := Run.leaf fun _ tk S => wpAny_Constant_int (Post.mk (tk := tk + 1) S (q tk))
theorem A1I {b : List UInt8} {k pos} {Q : Value → A0e → Led → Prop} (q : ∀ t, Q (.bytes b.toArray t) vs led) : Run Γ vs led (eval (.Constant (.bytes b) k pos) env) Q := Run.leaf fun _ tk S => Constant_bytes (Post.mk (tk := tk + 1) S (q tk))
theorem B8i {k pos} {Q : Value → A0e → Led → Prop} (q : Q .none vs led) : Run Γ vs led (eval (.Constant .none k pos) env) Q := Run.leaf fun _ _ S => wpAny_Constant_none (Post.mk S q)
theorem B8k {b : Bool} {k pos} {Q : Value → A0e → Led → Prop} (q : Q (.bool b) vs led) : Run Γ vs led (eval (.Constant (.bool b) k pos) env) Q := Run.leaf fun _ _ S => wpAny_Constant_bool (Post.mk S q)
theorem St.instAt {x C d : Addr} {fs : List (Str × Value)} (S : St Γ h vs led) (hx : (x, LObj.inst C d) ∈ led) (hd : (d, LObj.flds fs) ∈ led) :
  ∃ es n, InstAt h x (instObj C d) C (some (dictOf es n)) ∧ FldsAre es fs ∧ (fs.map (·.1)).Nodup ∧ fs.length ≤ 100 := by
 obtain ⟨o, ho, hi, _⟩ := S.get hx
 obtain ⟨o', ho', ⟨es, n, rfl, A, nd, hz⟩, _⟩ := S.get hd
 cases hi
 exact ⟨es, n, ⟨ho, rfl, rfl, ho'⟩, A, nd, hz⟩
theorem A6b {x C d : Addr} {fs : List (Str × Value)} {name : Str} {v : Value} {expr : Bool} {Q : Value → A0e → Led → Prop} (hx : (x, LObj.inst C d) ∈ led) (hd : (d, LObj.flds fs) ∈ led) (hm : (name, v) ∈ fs) (k : Fld C name)
  (hv : handedIn v = true) (q : Q v vs led) : Run Γ vs led (getAttr (.ref x) name expr) Q := Run.leaf fun h tk S => by
 obtain ⟨es, n, I, A, nd, _⟩ := S.instAt hx hd
 obtain ⟨k1, k2, k3⟩ := k Γ.w.params
 exact get_own S.F S.X I k1 k2 k3 rfl (A8T A nd hm) hv (Post.mk (tk := tk + 1) S q)
theorem B3B {value : Expr} {attr : Str} {pos : Pos} {Q : Value → A0e → Led → Prop} (H : Run Γ vs led (eval value env) fun o vs led => Run Γ vs led (getAttr o attr true) Q)
  (he : eval (.Attribute value attr pos) env = (do
   let o ← eval value env
   standAt pos.atName
   let r ← holding [o] (getAttr o attr true)
   letTemporaryGo value o r
   pure r) := by with_unfolding_all rfl) : Run Γ vs led (eval (.Attribute value attr pos) env) Q := by
 rw [he]
 exact Run.thn H fun o vs led q => Run.stand (Run.thn (Run.hold q) fun r vs led q => Run.thn (P := fun _ => Q r) (Run.leaf fun h tk S => wpAny_letTemporaryGo (Post.mk S q)) fun _ vs led q => Run.pure q)
theorem A7j {K : Frag} {C : Addr} {name : Str} (h : findIn K (.ref C) name = some none) : takerIn K C name = some none := by unfold takerIn; rw [h]; rfl
theorem Upd.of_split {d : Addr} {o o' : Obj} {post : List (Addr × Obj)} (h2 : ∀ p ∈ post, p.1 ≠ d) : ∀ {pre : List (Addr × Obj)}, (∀ p ∈ pre, p.1 ≠ d) → Upd d o o' (pre ++ (d, o) :: post) (pre ++ (d, o') :: post)
 | [], _ => .head h2
 | p :: _, h1 => .tail (h1 p (.head _)) (Upd.of_split h2 fun q hq => h1 q (.tail _ hq))
theorem A5o {x C d : Addr} {fs fs' : List (Str × Value)} {led' : Led} {name : Str} {v : Value} {Q : Unit → A0e → Led → Prop} (hx : (x, LObj.inst C d) ∈ led) (U : Upd1 d (.flds fs) (.flds fs') led led') (k : Fld C name) (tk : A5x C)
  (hf : ∀ es hs t, FldsAre es fs → (fs.map (·.1)).Nodup → FldsAre (putL name hs (.str name t) v es) fs') (nd' : (fs.map (·.1)).Nodup → (fs'.map (·.1)).Nodup) (hz' : fs.length ≤ 100 → fs'.length ≤ 100)
  (hl : name ∈ fs.map (·.1) ∨ name ∉ fs.map (·.1)) (q : Q () vs led') : Run Γ vs led (setAttr (.ref x) name v) Q := Run.leaf fun h tk' S => by
 obtain ⟨es, n, I, A, nd, hz⟩ := S.instAt hx U.mem
 obtain ⟨k1, k2, k3⟩ := k Γ.w.params
 obtain ⟨t1, t2, _⟩ := tk Γ.w.params
 obtain ⟨news, R, N⟩ := S.N
 have A' := hf es (PyData.keyHash Γ.w.params name) (tk' + 1) A nd
 have hi' : (LObj.flds fs').Is (dictOf (putL name (PyData.keyHash Γ.w.params name) (.str name (tk' + 1)) v es) (putN name es n)) := ⟨_, _, rfl, A', nd' nd, hz' hz⟩
 obtain ⟨pre, o, post, rfl, h1, R'⟩ := R.upd U hi'
 have z := N (d, o) (List.mem_append.mpr (.inr (.head _)))
 have nd0 := S.nd
 rw [← R.keys, List.map_append, List.map_cons] at nd0
 have nd1 := List.nodup_append.mp nd0
 have d1 : ∀ p ∈ pre, p.1 ≠ d := fun p hp e => nd1.2.2 p.1 (List.mem_map_of_mem hp) d (.head _) e
 have d2 : ∀ p ∈ post, p.1 ≠ d := fun p hp e => (List.nodup_cons.mp nd1.2.1).1 (by rw [← e]; exact List.mem_map_of_mem (f := (·.1)) hp)
 have ho : o = dictOf es n := Option.some.inj (z.1.symm.trans I.dict)
 subst ho
 refine set_dict (s := Γ.at h tk') S.F S.X N I rfl t1 t2 (A7j k3) k2 ?_ rfl (Upd.of_split d2 d1) ?_ fun h' F' N' => Post.mk (tk := tk' + 2) ?_ q
 ·rcases hl with hl | hl
  ·obtain ⟨p, hp, e⟩ := List.mem_map.mp hl
   rw [A8T A nd (v := p.2) (by rw [← e]; exact hp)]; rfl
  ·rw [A7E A hl]; rfl
 ·exact Nat.le_trans (Nat.le_of_eq A'.length) (Nat.le_trans (hz' hz) (by decide))
 ·exact { B := S.B, F := F', X := S.X, T := S.T, hk := S.hk, N := ⟨_, R', N'⟩, nd := by rw [U.keys]; exact S.nd, nv := S.nv, hl := S.hl, hg := S.hg }
theorem A7V {x C d : Addr} {fs fs' : List (Str × Value)} {led' : Led} {name : Str} {v : Value} {Q : Unit → A0e → Led → Prop} (hx : (x, LObj.inst C d) ∈ led) (V : FUpd name v fs fs') (U : Upd1 d (.flds fs) (.flds fs') led led') (k : Fld C name) (tk : A5x C)
  (q : Q () vs led') : Run Γ vs led (setAttr (.ref x) name v) Q :=
 A5o hx U k tk (fun _ _ _ A nd => B1w V A nd) (fun nd => by rw [V.keys]; exact nd) (fun hz => by have := congrArg List.length V.keys; simp only [List.length_map] at this; omega) (.inl V.mem) q
theorem B2j {x C d : Addr} {fs : List (Str × Value)} {led' : Led} {name : Str} {v : Value} {Q : Unit → A0e → Led → Prop} {FN rest : List Str} (hx : (x, LObj.inst C d) ∈ led) (nd : FN.Nodup) (hz : FN.length ≤ 100) (e : FN = fs.map (·.1) ++ name :: rest)
  (U : Upd1 d (.flds fs) (.flds (fs ++ [(name, v)])) led led') (k : Fld C name) (tk : A5x C) (q : Q () vs led') : Run Γ vs led (setAttr (.ref x) name v) Q := by
 subst e
 have hn : name ∉ fs.map (·.1) := fun hm => (List.nodup_append.mp nd).2.2 name hm name (.head _) rfl
 refine A5o hx U k tk (fun _ _ _ A _ => A8E A hn) (fun _ => ?_) (fun _ => ?_) (.inr hn) q
 ·rw [List.map_append]
  have := nd
  rw [← List.singleton_append, ← List.append_assoc] at this
  exact (List.nodup_append.mp this).1
 ·simp only [List.length_append, List.length_map, List.length_cons] at hz ⊢; simp; omega
theorem A8z {x C d f : Addr} {fs : List (Str × Value)} {name : Str} {pl : Sem Bool} {Q : Value × List Value → A0e → Led → Prop} (hx : (x, LObj.inst C d) ∈ led) (hd : (d, LObj.flds fs) ∈ led) (k : A2X C name f) {FN : List Str} (hn : name ∉ FN) (e : fs.map (·.1) = FN)
  (q : Q (.ref f, [.ref x]) vs led) : Run Γ vs led (getMethod (.ref x) name pl) Q := Run.leaf fun h tk S => by
 obtain ⟨es, n, I, A, nd, _⟩ := S.instAt hx hd
 obtain ⟨k1, k2, k3, _⟩ := k Γ.w.params
 exact method_inst S.F S.X I k1 k2 k3 (A7E A (e ▸ hn)) (Post.mk S q)
theorem B3A {func : Expr} {args : List Expr} {pos : Pos} {Q : Value → A0e → Led → Prop} (H : Run Γ vs led (eval func env) fun f vs led => Run Γ vs led (callWith pos f [] (backTo pos (starEach args env)) []) Q)
  (he : eval (.Call func args [] pos) env = (do callWith pos (← eval func env) [] (backTo pos (starEach args env)) (backToKw pos (keywordEach [] env))) := by rfl) : Run Γ vs led (eval (.Call func args [] pos) env) Q := by rw [he]; exact Run.bind H
theorem A4d {o : Expr} {name : Str} {apos pos : Pos} {args : List Expr} {pl : Sem Bool} {Q : Value → A0e → Led → Prop}
  (H : Run Γ vs led (eval o env) fun ov vs led => Run Γ vs led (getMethod ov name pl) fun fx vs led => Run Γ vs led (callWith pos fx.1 fx.2 (backTo pos (starEach args env)) []) Q)
  (he : eval (.Call (.Attribute o name apos) args [] pos) env = (do
   let ov ← eval o env
   standAt apos.atName
   let (f, first) ← holding [ov] (getMethod ov name pl)
   callWith pos f first (backTo pos (starEach args env)) []) := by rfl) : Run Γ vs led (eval (.Call (.Attribute o name apos) args [] pos) env) Q := by
 rw [he]
 exact Run.thn H fun ov vs led q => Run.stand (Run.thn (Run.hold q) fun fx vs led q => q)
theorem A6D {pos : Pos} {Q : List Value → A0e → Led → Prop} (q : Q [] vs led) : Run Γ vs led (spliced (backTo pos (starEach [] env))) Q := Run.leaf fun _ _ S => spliced_none (Post.mk S q)
theorem A3J {e : Expr} {rest : List Expr} {pos : Pos} {Q : List Value → A0e → Led → Prop}
  (H : Run Γ vs led (eval e env) fun v vs led => Run Γ vs led (spliced (backTo pos (starEach rest env))) fun as vs led => Q (v :: as) vs led)
  (he : starEach (e :: rest) env = (false, eval e env) :: starEach rest env := by rfl) : Run Γ vs led (spliced (backTo pos (starEach (e :: rest) env))) Q := by
 rw [he]
 show Run Γ vs led (spliced ((false, eval e env) :: backTo pos (starEach rest env))) Q
 rw [spliced]
 refine Run.thn H fun v vs led q => ?_
 simp only [Bool.false_eq_true, if_false]
 exact Run.pb (Run.thn (Run.hold q) fun as vs led q => Run.pure q)
noncomputable def A0B (f : Addr) : Prop := ∀ P, keepIn (kf P) (.ref f) = true
theorem A5k {f : Value} {x : Sem Value} {rest : List (Bool × Sem Value)} {Q : Args → A0e → Led → Prop} (H : Run Γ vs led (spliced ((false, x) :: rest)) fun as vs led => Q ⟨as, []⟩ vs led) :
  Run Γ vs led (evalArgs f true ((false, x) :: rest) []) Q := by
 unfold evalArgs
 show Run Γ vs led (spliced ((false, x) :: rest) >>= _) Q
 exact Run.thn H fun as vs led q => Run.hold (Run.pb (Run.pb (Run.pure q)))
theorem A4G {f : Value} {Q : Args → A0e → Led → Prop} (q : Q ⟨[], []⟩ vs led) : Run Γ vs led (evalArgs f true [] []) Q := Run.leaf fun h tk S => evalArgs_nil3 (Post.mk S q)
theorem B1a {r : Value} {Q : Value → A0e → Led → Prop} (q : Q r vs led) : Run Γ vs led (do holding [r] point; pure r) Q := Run.leaf fun h tk S => wpAny_bind (wpAny_holding (wpAny_point (wpAny_pure (Post.mk S q))))
theorem B0Y {f : Value} {first : List Value} {pos : Pos} {args : List (Bool × Sem Value)} {Q : Value → A0e → Led → Prop} (k : ∀ P, keepIn (kf P) f = true) (hplain : args.any (·.1) = false)
  (H : Run Γ vs led (evalArgs f true args []) fun a vs led => Run Γ vs led (call f (first ++ a.pos) a.kw) Q) : Run Γ vs led (callWith pos f first args []) Q := by
 unfold callWith
 refine Run.thn (Run.hold H) fun a vs led q => Run.stand ?_
 simp only [hplain, List.any_nil, Bool.or_false]
 have tail : ∀ {t : Sem Value}, Run Γ vs led t Q → Run Γ vs led (t >>= fun r => holding [r] point >>= fun _ => pure r) Q := fun ht => Run.thn ht fun r vs led q => B1a q
 have marked (mk : Value) : Run Γ vs led (callMarked mk f (first ++ a.pos) a.kw) Q := by unfold callMarked; exact Run.keep q
 intro h tk S
 obtain ⟨k, hk, L⟩ := looks_keep (M := Γ.M) (k Γ.w.params) S.kin
 refine A0f (A0v (L.here (s := Γ.at h tk) ?_))
 rcases hk with rfl | rfl <;> dsimp only
 ·split
  ·exact tail q h tk S
  ·exact tail (marked _) h tk S
 ·exact tail q h tk S
theorem B0Z {id : String} {first : List Value} {pos : Pos} {args : List (Bool × Sem Value)} {Q : Value → A0e → Led → Prop} (hplain : args.any (·.1) = false)
  (H : Run Γ vs led (evalArgs (.builtin id) true args []) fun a vs led => Run Γ vs led (call (.builtin id) (first ++ a.pos) a.kw) Q) : Run Γ vs led (callWith pos (.builtin id) first args []) Q := by
 unfold callWith
 refine Run.thn (Run.hold H) fun a vs led q => Run.stand ?_
 simp only [hplain, List.any_nil, Bool.or_false]
 exact Run.pb (Run.thn q fun r vs led q => B1a q)
theorem B0X {T : String} {first : List Value} {pos : Pos} {args : List (Bool × Sem Value)} {Q : Value → A0e → Led → Prop} (hplain : args.any (·.1) = false)
  (H : Run Γ vs led (evalArgs (.type T) true args []) fun a vs led => Run Γ vs led (call (.type T) (first ++ a.pos) a.kw) Q) : Run Γ vs led (callWith pos (.type T) first args []) Q := by
 unfold callWith
 refine Run.thn (Run.hold H) fun a vs led q => Run.stand ?_
 simp only [hplain, List.any_nil, Bool.or_false]
 exact Run.pb (Run.thn q fun r vs led q => B1a q)
theorem A4j {f : Addr} {pos : Pos} {first : List Value} {e : Expr} {rest : List Expr} {Q : Value → A0e → Led → Prop} (k : A0B f)
  (H : Run Γ vs led (spliced (backTo pos (starEach (e :: rest) env))) fun as vs led => Run Γ vs led (call (.ref f) (first ++ as)) Q)
  (he : starEach (e :: rest) env = (false, eval e env) :: starEach rest env := by rfl) (hplain : (backTo pos (starEach rest env)).any (·.1) = false := by rfl) :
  Run Γ vs led (callWith pos (.ref f) first (backTo pos (starEach (e :: rest) env)) []) Q := by
 rw [he] at H ⊢
 exact B0Y k (by show (false || (backTo pos (starEach rest env)).any (·.1)) = false; rw [hplain]; rfl) (A5k H)
theorem A6c {f : Addr} {pos : Pos} {first : List Value} {Q : Value → A0e → Led → Prop} (k : A0B f)
  (H : Run Γ vs led (call (.ref f) (first ++ [])) Q) : Run Γ vs led (callWith pos (.ref f) first (backTo pos (starEach [] env)) []) Q := B0Y (args := []) k rfl (A4G H)
theorem A7f {id : String} {pos : Pos} {first : List Value} {e : Expr} {rest : List Expr} {Q : Value → A0e → Led → Prop}
  (H : Run Γ vs led (spliced (backTo pos (starEach (e :: rest) env))) fun as vs led => Run Γ vs led (call (.builtin id) (first ++ as)) Q)
  (he : starEach (e :: rest) env = (false, eval e env) :: starEach rest env := by rfl) (hplain : (backTo pos (starEach rest env)).any (·.1) = false := by rfl) :
  Run Γ vs led (callWith pos (.builtin id) first (backTo pos (starEach (e :: rest) env)) []) Q := by
 rw [he] at H ⊢
 exact B0Z (by show (false || (backTo pos (starEach rest env)).any (·.1)) = false; rw [hplain]; rfl) (A5k H)
theorem A9b {id : String} {pos : Pos} {first : List Value} {Q : Value → A0e → Led → Prop} (H : Run Γ vs led (call (.builtin id) first) Q) :
  Run Γ vs led (callWith pos (.builtin id) first (backTo pos (starEach [] env)) []) Q := B0Z (args := []) rfl (A4G (by simpa using H))
theorem B1f {T : String} {pos : Pos} {e : Expr} {rest : List Expr} {Q : Value → A0e → Led → Prop}
  (H : Run Γ vs led (spliced (backTo pos (starEach (e :: rest) env))) fun as vs led => Run Γ vs led (call (.type T) as) Q)
  (he : starEach (e :: rest) env = (false, eval e env) :: starEach rest env := by rfl) (hplain : (backTo pos (starEach rest env)).any (·.1) = false := by rfl) :
  Run Γ vs led (callWith pos (.type T) [] (backTo pos (starEach (e :: rest) env)) []) Q := by
 rw [he] at H ⊢
 exact B0X (by show (false || (backTo pos (starEach rest env)).any (·.1)) = false; rw [hplain]; rfl) (A5k H)
theorem B2k {T : String} {pos : Pos} {Q : Value → A0e → Led → Prop} (H : Run Γ vs led (call (.type T) []) Q) :
  Run Γ vs led (callWith pos (.type T) [] (backTo pos (starEach [] env)) []) Q := B0X (args := []) rfl (A4G H)
theorem A7h {l r : Expr} {op : Operator} {pos : Pos} {Q : Value → A0e → Led → Prop} (H : Run Γ vs led (eval l env) fun a vs led => Run Γ vs led (eval r env) fun b vs led => Run Γ vs led (binaryOp op a b) Q) :
  Run Γ vs led (eval (.BinOp l op r pos) env) Q := by
 rw [eval_BinOp]
 exact Run.thn H fun a vs led q => Run.thn (Run.hold q) fun b vs led q => Run.stand (Run.oper q)
theorem A7X {op : UnaryOp} {x : Expr} {pos : Pos} {Q : Value → A0e → Led → Prop} (H : Run Γ vs led (eval x env) fun a vs led => Run Γ vs led (unaryOp op a) Q) :
  Run Γ vs led (eval (.UnaryOp op x pos) env) Q := by
 rw [arm_eval_UnaryOp]
 exact Run.thn H fun a vs led q => Run.stand (Run.hold q)
theorem A7Y {l r : Expr} {op : CmpOp} {pos : Pos} {Q : Value → A0e → Led → Prop} (H : Run Γ vs led (eval l env) fun a vs led => Run Γ vs led (eval r env) fun b vs led => Run Γ vs led (compareOp op a b) Q)
  (hm : behindInMarks op r = false := by with_unfolding_all rfl) :
  Run Γ vs led (eval (.Compare l [op] [r] pos) env) Q := by
 rw [eval_Compare1, markedBehindIn_of_false hm]
 exact Run.thn H fun a vs led q => Run.thn (Run.hold q) fun b vs led q => Run.stand (Run.oper q)
theorem A3f {value slice : Expr} {pos : Pos} {Q : Value → A0e → Led → Prop} (H : Run Γ vs led (eval value env) fun o vs led => Run Γ vs led (eval slice env) fun i vs led => Run Γ vs led (subscriptTail value slice o i) Q) :
  Run Γ vs led (eval (.Subscript value slice pos) env) Q := by
 rw [eval_Subscript]
 exact Run.thn H fun a vs led q => Run.thn (Run.hold q) fun b vs led q => Run.stand q
theorem A0q {l : List Value} {Q : Value → A0e → Led → Prop} (hz : l.length ≤ sizeLine) (q : ∀ a, Q (.ref a) vs ((a, .tup l) :: led)) : Run Γ vs led (newTuple l) Q := Run.leaf fun h tk S =>
 wpAny_newObj_type (Post.mk (S.alloc (lo := .tup l) ⟨0, rfl⟩ rfl) (q _)) (by show l.toArray.size ≤ sizeLine; rw [List.size_toArray]; exact hz)
theorem A0o {l : List Value} {Q : Value → A0e → Led → Prop} (hz : l.length ≤ sizeLine) (q : ∀ a, Q (.ref a) vs ((a, .list l) :: led)) : Run Γ vs led (newList l) Q := Run.leaf fun h tk S =>
 wpAny_newObj_type (Post.mk (S.alloc (lo := .list l) ⟨0, rfl⟩ rfl) (q _)) (by show l.toArray.size ≤ sizeLine; rw [List.size_toArray]; exact hz)
theorem B1g {elts : List Expr} {k : Nat} {pos : Pos} {Q : Value → A0e → Led → Prop} (H : Run Γ vs led (spliced (backTo pos (starEach elts env))) fun as vs led => Run Γ vs led (newTuple as) Q) :
  Run Γ vs led (eval (.Tuple elts k pos) env) Q := by
 show Run Γ vs led (do standAt pos; newTuple (← spliced (backTo pos (starEach elts env)))) Q
 exact Run.stand (Run.bind H)
theorem B3z {elts : List Expr} {pos : Pos} {Q : Value → A0e → Led → Prop} (H : Run Γ vs led (spliced (backTo pos (starEach elts env))) fun as vs led => Run Γ vs led (newList as) Q) :
  Run Γ vs led (eval (.List elts pos) env) Q := by
 show Run Γ vs led (do standAt pos; newList (← spliced (backTo pos (starEach elts env)))) Q
 exact Run.stand (Run.bind H)
end
end Mine
namespace Mine
section
variable {Γ : Cx} {vs : A0e} {led : Led} {h : Heap} {tk : Nat}
noncomputable def Ex2 (Γ : Cx) : A0e → Led → List (List Stmt) → (Flow → A0e → Led → Prop) → Prop
 | vs, led, [], Q => Q .next vs led
 | vs, led, ss :: k, Q => Run Γ vs led (execs ss Γ.env) fun f vs led => match f with
  | .next => Ex2 Γ vs led k Q
  | f => Q f vs led
noncomputable abbrev Do := Ex2
variable {k : List (List Stmt)} {rest : List Stmt} {Q : Flow → A0e → Led → Prop}
theorem A0n (q : Q .next vs led) : Do Γ vs led [] Q := q
theorem A0a (H : Do Γ vs led k Q) : Do Γ vs led ([] :: k) Q := Run.leaf fun h tk S => wpAny_execs_nil (Post.mk S H)
theorem A5Z {st : Stmt} (H : Run Γ vs led (exec st Γ.env) fun f vs led => match f with
  | .next => Do Γ vs led (rest :: k) Q
  | f => Q f vs led) : Do Γ vs led ((st :: rest) :: k) Q := by
 show Run Γ vs led (execs (st :: rest) Γ.env) _
 rw [execs_cons]
 refine Run.thn H fun f vs led q => ?_
 cases f with
 | next => exact q
 | brk => exact Run.pure q
 | cont => exact Run.pure q
 | ret v => exact Run.pure q
theorem B0T {st : Stmt} (H : Run Γ vs led (exec st Γ.env) fun f vs led => f = .next ∧ Do Γ vs led (rest :: k) Q) : Do Γ vs led ((st :: rest) :: k) Q :=
 A5Z (H.mono fun f vs led q => by obtain ⟨rfl, q⟩ := q; exact q)
theorem A8Z {e : Expr} {pos : Pos} (H : Run Γ vs led (eval e Γ.env) fun v vs led => Q (.ret v) vs led) : Do Γ vs led ((.Return (some e) pos :: rest) :: k) Q := A5Z (by
 rw [exec_Return_some]
 exact Run.stand (Run.thn H fun v vs led q => Run.pure q))
theorem B8g {e : Expr} {pos : Pos} (H : Run Γ vs led (eval e Γ.env) fun v vs led => (match v with | .ref _ => False | _ => True) ∧ Do Γ vs led (rest :: k) Q)
  (hi : interactive Γ.env = false) (hs : swapsWith e none pos.line Γ.env = pure false := by rfl) : Do Γ vs led ((.Expr e pos :: rest) :: k) Q := B0T (by
 rw [exec_Expr Γ.env e pos hi hs]
 refine Run.stand (Run.thn H fun v vs led q => ?_)
 rw [dropValue_plain (by rintro a rfl; exact q.1)]
 exact Run.pure ⟨rfl, q.2⟩)
theorem A5l {x : Str} {v : Value} {Q : Unit → A0e → Led → Prop} (H : Run Γ vs led (storeName Γ.env x v) Q) : Run Γ vs led (bindName Γ.env x v) Q := fun h tk S G p hG hc => by rw [Sem.wp_bindName]; exact H h tk S G p hG hc
theorem B1d {a b : List Value} {Q : Unit → A0e → Led → Prop} (q : Q () vs led) : Run Γ vs led (release a b) Q := Run.leaf fun h tk S => wpAny_release (Post.mk S q)
theorem A9a {x : Str} {pos' pos : Pos} {value : Expr} (H : Run Γ vs led (eval value Γ.env) fun v vs led => ∃ vs', VUpd x v vs vs' ∧ Do Γ vs' led (rest :: k) Q)
  (hs : swapsWith value (some (.Name x pos')) pos.line Γ.env = pure false := by rfl) : Do Γ vs led ((.Assign [.Name x pos'] value pos :: rest) :: k) Q := B0T (by
 rw [exec_Assign_Name Γ.env x pos' value pos hs]
 refine Run.stand (Run.thn H fun v vs led ⟨vs', U, q⟩ => Run.stand (Run.thn (A5l (B1b (Q := fun _ vs led => Do Γ vs led (rest :: k) Q) U q)) fun _ vs led q => Run.pure ⟨rfl, q⟩)))
theorem A5s {o : Expr} {attr : Str} {pos' pos : Pos} {value : Expr} (H : Run Γ vs led (eval value Γ.env) fun v vs led => Run Γ vs led (eval o Γ.env) fun ov vs led => Run Γ vs led (setAttr ov attr v) fun _ vs led => Do Γ vs led (rest :: k) Q)
  (hs : swapsWith value (some (.Attribute o attr pos')) pos.line Γ.env = pure false := by rfl) : Do Γ vs led ((.Assign [.Attribute o attr pos'] value pos :: rest) :: k) Q := B0T (by
 rw [plainObj_exec_Assign_Attribute o attr pos' value pos hs]
 refine Run.stand (Run.thn H fun v vs led q => Run.thn (P := fun _ vs led => Do Γ vs led (rest :: k) Q) ?_ fun _ vs led q => Run.pure ⟨rfl, q⟩)
 rw [assign_Attribute]
 exact Run.thn (Run.hold q) fun ov vs led q => Run.stand (Run.thn (Run.hold q) fun _ vs led q => B1d q))
theorem A8x {o i : Expr} {pos' pos : Pos} {value : Expr} (H : Run Γ vs led (eval value Γ.env) fun v vs led => Run Γ vs led (eval o Γ.env) fun ov vs led => Run Γ vs led (eval i Γ.env) fun iv vs led => Run Γ vs led (setItem ov iv v) fun _ vs led => Do Γ vs led (rest :: k) Q)
  (hs : swapsWith value (some (.Subscript o i pos')) pos.line Γ.env = pure false := by rfl) : Do Γ vs led ((.Assign [.Subscript o i pos'] value pos :: rest) :: k) Q := B0T (by
 rw [exec_Assign_Subscript o i pos' value pos hs]
 refine Run.stand (Run.thn H fun v vs led q => Run.thn (P := fun _ vs led => Do Γ vs led (rest :: k) Q) ?_ fun _ vs led q => Run.pure ⟨rfl, q⟩)
 rw [assign_Subscript]
 exact Run.thn (Run.hold q) fun ov vs led q => Run.thn (Run.hold q) fun iv vs led q => Run.stand (Run.thn (Run.hold q) fun _ vs led q => B1d q))
theorem B0V {o : Expr} {attr : Str} {pos' pos : Pos} {op : Operator} {value : Expr} (H : Run Γ vs led (eval o Γ.env) fun ov vs led => Run Γ vs led (getAttr ov attr true) fun old vs led => Run Γ vs led (eval value Γ.env) fun v vs led => Run Γ vs led (inplaceOp op old v) fun r vs led =>
  Run Γ vs led (setAttr ov attr r) fun _ vs led => Do Γ vs led (rest :: k) Q) : Do Γ vs led ((.AugAssign (.Attribute o attr pos') op value pos :: rest) :: k) Q := B0T (by
 have e : exec (.AugAssign (.Attribute o attr pos') op value pos) Γ.env = (do
   standAt pos
   let ov ← eval o Γ.env
   let new ← holding [ov] do
    standAt pos'.atName
    let old ← getAttr ov attr true
    let v ← holding [old] (eval value Γ.env)
    standAt pos
    operate [old, v] (inplaceOp op old v)
   standAt pos'.atName
   holding [new, ov] (setAttr ov attr new)
   release [new, ov] []
   pure .next) := rfl
 rw [e]
 exact Run.stand (Run.thn H fun ov vs led q => Run.thn (Run.hold (Run.stand (Run.thn q fun old vs led q => Run.thn (Run.hold q) fun v vs led q => Run.stand (Run.oper q)))) fun new vs led q =>
  Run.stand (Run.thn (Run.hold q) fun _ vs led q => Run.rel (Run.pure ⟨rfl, q⟩))))
theorem B2h {o i : Expr} {pos' pos : Pos} {op : Operator} {value : Expr} (H : Run Γ vs led (eval o Γ.env) fun ov vs led => Run Γ vs led (eval i Γ.env) fun iv vs led => Run Γ vs led (getItem ov iv) fun old vs led => Run Γ vs led (eval value Γ.env) fun v vs led => Run Γ vs led (inplaceOp op old v) fun r vs led =>
  Run Γ vs led (setItem ov iv r) fun _ vs led => Do Γ vs led (rest :: k) Q)
  (ha : ∀ ov iv new, augStore i ov iv new = (do holding [new, ov, iv] (setItem ov iv new); release [new, ov, iv] []; pure .next) := by intro _ _ _; rfl) : Do Γ vs led ((.AugAssign (.Subscript o i pos') op value pos :: rest) :: k) Q := B0T (by
 have e : exec (.AugAssign (.Subscript o i pos') op value pos) Γ.env = (do
   standAt pos
   let ov ← eval o Γ.env
   let iv ← holding [ov] (eval i Γ.env)
   let new ← holding [ov, iv] do
    standAt pos'
    let old ← getItem ov iv
    let v ← holding [old] (eval value Γ.env)
    standAt pos
    operate [old, v] (inplaceOp op old v)
   standAt pos'
   augStore i ov iv new) := rfl
 rw [e]
 refine Run.stand (Run.thn H fun ov vs led q => Run.thn (Run.hold q) fun iv vs led q => Run.thn (Run.hold (Run.stand (Run.thn q fun old vs led q => Run.thn (Run.hold q) fun v vs led q => Run.stand (Run.oper q)))) fun new vs led q => Run.stand ?_)
 rw [ha]
 exact Run.thn (Run.hold q) fun _ vs led q => Run.rel (Run.pure ⟨rfl, q⟩))
theorem X_If {test : Expr} {body orelse : List Stmt} {pos : Pos} (H : Run Γ vs led (PySem.isTrue test Γ.env (eval test Γ.env)) fun b vs led => (b = true → Do Γ vs led (body :: rest :: k) Q) ∧ (b = false → Do Γ vs led (orelse :: rest :: k) Q)) :
  Do Γ vs led ((.If test body orelse pos :: rest) :: k) Q := by
 refine A5Z ?_
 rw [exec_If]
 refine Run.stand (Run.thn H fun b vs led q => ?_)
 cases b with
 | true =>
  rw [if_pos rfl]
  exact Run.mono (q.1 rfl) fun f vs led q => by cases f <;> exact q
 | false =>
  rw [if_neg Bool.false_ne_true]
  exact Run.mono (q.2 rfl) fun f vs led q => by cases f <;> exact q
variable {QB : Bool → A0e → Led → Prop} {env : Env}
theorem B0W {e : Expr} {whole : Sem Value} (H : Run Γ vs led whole fun v vs led => Run Γ vs led (truthy v) QB)
  (he : PySem.isTrue e env whole = (do let v ← whole; standAt e.pos; holding [v] (truthy v)) := by rfl) : Run Γ vs led (PySem.isTrue e env whole) QB := by
 rw [he]
 exact Run.thn H fun v vs led q => Run.stand (Run.hold q)
theorem C0m {x : Expr} {pos : Pos} {whole : Sem Value} (H : Run Γ vs led (PySem.isTrue x env (eval x env)) fun b vs led => QB (!b) vs led) : Run Γ vs led (PySem.isTrue (.UnaryOp .Not x pos) env whole) QB := by
 show Run Γ vs led (do return !(← PySem.isTrue x env (eval x env))) QB
 exact Run.thn H fun b vs led q => Run.pure q
theorem A2I {pos : Pos} {whole : Sem Value} (q : QB true vs led) : Run Γ vs led (PySem.isTrue (.BoolOp .And [] pos) env whole) QB := Run.leaf fun h tk S => isTrue_and_nil (Post.mk S q)
theorem A0W {pos : Pos} {whole : Sem Value} (q : QB false vs led) : Run Γ vs led (PySem.isTrue (.BoolOp .Or [] pos) env whole) QB := Run.leaf fun h tk S => isTrue_or_nil (Post.mk S q)
theorem C0n {x : Expr} {r : List Expr} {pos : Pos} {whole : Sem Value} (H : Run Γ vs led (PySem.isTrue x env (eval x env)) fun b vs led => (b = true → Run Γ vs led (PySem.isTrue (.BoolOp .And r pos) env whole) QB) ∧ (b = false → QB false vs led)) :
  Run Γ vs led (PySem.isTrue (.BoolOp .And (x :: r) pos) env whole) QB := by
 show Run Γ vs led (do
  match BoolOp.And, ← PySem.isTrue x env (eval x env) with
  | .And, false => pure false
  | .Or, true => pure true
  | _, _ => allTrue .And r env) QB
 refine Run.thn H fun b vs led q => ?_
 cases b with
 | true => exact q.1 rfl
 | false => exact Run.pure (q.2 rfl)
theorem T_or {x : Expr} {r : List Expr} {pos : Pos} {whole : Sem Value} (H : Run Γ vs led (PySem.isTrue x env (eval x env)) fun b vs led => (b = true → QB true vs led) ∧ (b = false → Run Γ vs led (PySem.isTrue (.BoolOp .Or r pos) env whole) QB)) :
  Run Γ vs led (PySem.isTrue (.BoolOp .Or (x :: r) pos) env whole) QB := by
 show Run Γ vs led (do
  match BoolOp.Or, ← PySem.isTrue x env (eval x env) with
  | .And, false => pure false
  | .Or, true => pure true
  | _, _ => allTrue .Or r env) QB
 refine Run.thn H fun b vs led q => ?_
 cases b with
 | true => exact Run.pure (q.1 rfl)
 | false => exact q.2 rfl
theorem B2i {l r : Expr} {op : CmpOp} {pos : Pos} {whole : Sem Value} (H : Run Γ vs led (eval l env) fun a vs led => Run Γ vs led (eval r env) fun b vs led => Run Γ vs led (compareOp op a b) fun c vs led => Run Γ vs led (truthy c) QB)
  (hm : behindInMarks op r = false := by with_unfolding_all rfl) : Run Γ vs led (PySem.isTrue (.Compare l [op] [r] pos) env whole) QB := by
 rw [isTrue_Compare1, markedBehindIn_of_false hm]
 exact Run.thn H fun a vs led q => Run.thn (Run.hold q) fun b vs led q => Run.stand (Run.thn (Run.oper q) fun c vs led q => Run.hold q)
theorem A0c {b : Bool} (q : QB b vs led) : Run Γ vs led (truthy (.bool b)) QB := Run.leaf fun h tk S => wpAny_truthy_bool (Post.mk S q)
noncomputable def A2b : Flow → Value
 | .ret v => v
 | _ => .none
theorem A6f {binds : List (Str × Value)} (nd : (binds.map (·.1)).Nodup) (y : Str) : binds.reverse.lookup y = binds.lookup y := by
 induction binds with
 | nil => rfl
 | cons p r ih =>
  rw [List.map_cons, List.nodup_cons] at nd
  rw [List.reverse_cons, List.lookup_append, ih nd.2]
  obtain ⟨x, v⟩ := p
  by_cases h : y = x
  ·subst h
   have : r.lookup y = none := by
    cases q : r.lookup y with
    | none => rfl
    | some w =>
     exfalso
     apply nd.1
     clear ih nd
     induction r with
     | nil => cases q
     | cons p r ih =>
      obtain ⟨z, u⟩ := p
      rw [List.lookup_cons] at q
      by_cases hz : y = z
      ·subst hz; exact .head _
      ·have : (y == z) = false := by simpa using hz
       rw [this] at q
       exact .tail _ (ih q)
   simp [this]
  ·have hb : (y == x) = false := by simpa using h
   simp [List.lookup_cons, hb]
noncomputable def A0U (binds : List (Str × Value)) (more : List Str) : A0e := binds.map (fun p => (p.1, some p.2)) ++ more.map fun x => (x, none)
theorem A4p (binds : List (Str × Value)) (more : List Str) : (A0U binds more).map (·.1) = binds.map (·.1) ++ more := by
 simp [A0U, Function.comp_def]
theorem A5Y {binds : List (Str × Value)} {more : List Str} (nd : ((A0U binds more).map (·.1)).Nodup) : asc (A0U binds more) = fun y => binds.reverse.lookup y := by
 rw [A4p] at nd
 funext y
 rw [A6f (List.nodup_append.mp nd).1]
 clear nd
 induction binds with
 | nil =>
  show asc (more.map fun x => (x, none)) y = none
  induction more with
  | nil => rfl
  | cons x r ih => rw [List.map_cons, A2W]; split; rfl; exact ih
 | cons p r ih =>
  obtain ⟨x, v⟩ := p
  show asc ((x, some v) :: A0U r more) y = _
  rw [A2W, List.lookup_cons]
  by_cases hx : y = x
  ·subst hx; simp
  ·have hb : (y == x) = false := by simpa using hx
   rw [if_neg hx, hb]; exact ih
structure Cx.Under (Γ : Cx) (A' : Around) (cs : Scope) (gl : List Str) (Γ' : Cx) : Prop where
 w : Γ'.w = Γ.w
 dp : Γ'.dp = A'.depth + 1
 un : Γ'.un = A'.units + 3
 cs : Γ'.cs = cs
 gl : Γ'.gl = gl
 gens : Γ'.gens = Γ.gens
 nd : Γ'.nd = Γ.nd
 gd : Γ'.gd = A'.guards
theorem A5h {nd : Bool} {A : Around} {R : Result → Shared → Prop} {s : Shared} {w : World} {body : List Stmt} {env : Env}
  (h : wpM nd (model pw w) (A.deeper env) (execs body env) (fun f s' => R (.ok (.ret (A2b f))) s') (fun _ _ => False) s) : A3M nd (model pw w) A (.func body env) R s := by
 refine A1c rfl ?_
 show wpM nd _ (A.deeper env) (do point; match ← (execs body env).onRaise (leaving env) with | .ret v => ret v | _ => ret .none) _ _ s
 refine A0f (A0v (wpAny_point (A0f (A2Y (A2S h (fun f s' h' => ?_) fun _ _ x => x)))))
 cases f <;> exact A0v (wpAny_pure h')
theorem A5i {nd : Bool} {A : Around} {R : Result → Shared → Prop} {s : Shared} {w : World} {a : Addr} {args : Args} {o : Obj} {fd : FuncData} {body : List Stmt} (hroom : A.depth < recursionLimit) (ho : s.heap.get? a = some o)
  (hd' : o.data = .func fd) (hco : fd.scope.isCoroutine = false) (hgen : fd.scope.isGenerator = false) (hbody : fd.body = .stmts body) (hcd : s.heap.CodeRec fd.code fd.qualname)
  (h : wpAny (model pw w) A.in1 (bindArgs fd args) (fun binds s₁ => wpAny (model pw w) A.in1 (newFunctionEnv fd.scope fd.globals fd.closure binds (fd.qualname ++ ".<locals>.") (some a) fd.code none fd.builtins)
    (fun env s₂ => s₂.heap.NoLimit ∧ A3M nd (model pw w) A (.func body env) R s₂) (fun e s' => R (.error e) s') s₁) (fun e s' => R (.error e) s') s) : A3M nd (model pw w) A (.call (.ref a) args) R s := by
 refine A1c rfl (A0v ?_)
 show wpAny _ A.in1 (callAny (.ref a) args) _ _ s
 simp only [callAny]
 refine wpAny_bind (wpAny_load ho ?_)
 obtain ⟨c, oc, vs, tq, hc, hoc, hdc, hq⟩ := hcd
 simp only [hd', callFunction, hco, hgen, hbody, hc]
 rw [hc] at h
 refine wpAny_bind (m := field (.ref c) 1) (wpAny_field hoc hdc hq (wpAny_bind (wpAny_pure ?_)))
 exact wpAny_bind (wpAny_mono h (fun binds s₁ h₁ => wpAny_bind (wpAny_mono h₁ (fun env s₂ h₂ => wpAny_bind (wpAny_enterFrame h₂.1 hroom (wpAny_pure (And.intro rfl h₂.2)))) fun _ _ h' => h')) fun _ _ h' => h')
theorem enter {A' : Around} {R : Result → Shared → Prop} {name qual : Str} {params : Arguments} {body : List Stmt} {scope : Scope} {dV kV doc pm cdv ct oc : Value} {an od : Option Addr} {osl : Array (Option Value)} {f : Addr} {args : List Value} {binds : List (Str × Value)}
  (hf : A'.frames = some (Γ.env :: Γ.outer)) (hh : A'.handled = none) (hroom : A'.depth < recursionLimit)
  (ho : ∀ P, (kf P).lookup f = some ⟨oc, od, .func (fnOf name qual params body scope dV kV doc pm an cdv ct), osl⟩) (hcd : ∀ P, codeIn (kf P) cdv qual = true)
  (hbind : ∀ s : Shared, (kf Γ.w.params).In s.heap → BindsTo s (fnOf name qual params body scope dV kV doc pm an cdv ct) ⟨args, []⟩ binds) (more gl : List Str)
  (hnd : ((A0U binds more).map (·.1)).Nodup) (hl : ∀ x ∈ (A0U binds more).map (·.1), scope.names.lookup x = some .local ∧ (x == ("__debug__" : Str)) = false) (hg' : ∀ x ∈ gl, scope.names.lookup x = some .globalImplicit ∧ (x == ("__debug__" : Str)) = false)
  (hco : scope.isCoroutine = false) (hgen : scope.isGenerator = false) (hk : scope.kind = .function) (hcell : ∀ x ∈ scope.names, x.2 ≠ .cell)
  (hbody : ∀ Γ', Γ.Under A' scope gl Γ' → Do Γ' (A0U binds more) led [body] fun fl _ led' => ∀ h tk, St Γ h vs led' → R (.ok (.ret (A2b fl))) (Γ.at h tk)) (S : St Γ h vs led) :
  A3M Γ.nd Γ.M A' (.call (.ref f) ⟨args, []⟩) R (Γ.at h tk) := by
 obtain ⟨news, RR, N⟩ := S.N
 have hloc : ∀ y ∈ binds, scope.names.lookup y.1 = some .local := fun y hy => (hl y.1 (by rw [A4p]; exact List.mem_append_left _ (List.mem_map_of_mem hy))).1
 obtain ⟨hd, dp, fr, gd, un⟩ := A'
 dsimp only at hf hh hroom
 subst hf hh
 have X := S.kin
 obtain ⟨FG, BG, st, lv⟩ := groundX (s := Γ.at h tk) (A := ⟨none, dp, some (Γ.env :: Γ.outer), gd, un⟩) (R := R) S.B S.F N rfl rfl S.hk
 generalize hg : hideAll (Γ.at h tk).heap (news.map (·.1)) = g at FG BG st lv
 refine A5i (s := Γ.at h tk) (body := body) hroom (X _ _ (ho _)) rfl hco hgen rfl (codeRec_of X (hcd _)) (hbind _ X _ _ _ _ (wpAny_newFunctionEnv hcell hloc (fun h₁ hns hsb => ⟨(S.T.nolimit.keeps S.F.keep).fresh _ hsb, A5h ?_⟩) hk))
 have nog : ∀ p ∈ news, g.get? p.1 = none := fun p hp => by rw [← hg]; exact hideAll_none _ (List.mem_map_of_mem hp)
 have szg : g.objs.size = h.objs.size := by rw [← hg]; exact hideAll_size _ _
 have ofg : ∀ b o, g.get? b = some o → h.get? b = some o := fun b o e => by rw [← hg] at e; exact of_hideAll _ e
 have hk₁ : ∀ b o, h.get? b = some o → h₁.get? b = some o := fun b o e => hsb.extBut b o (Nat.ne_of_lt (Heap.lt_size e)) (Heap.get?_push_of_some _ e)
 let Γ' : Cx := { Γ with dp := dp + 1, un := un + 3, gd := gd, cn := qual, cs := scope, L := h.objs.size, a := f, ccd := cdv, outer := Γ.env :: Γ.outer, A₀ := ⟨none, dp, some (Γ.env :: Γ.outer), gd, un⟩, h₀ := g, gl := gl, cl := [] }
 have S' : St Γ' h₁ (A0U binds more) led := by
  refine { B := BG, F := ?_, X := S.X.keeps st, T := S.T.keeps st, hk := hk, N := ⟨news, RR, fun p hp => ⟨hk₁ _ _ (N p hp).1, Nat.ne_of_lt (Heap.lt_size (N p hp).1), nog p hp⟩⟩, nd := S.nd, nv := hnd, hl := hl, hg := hg' }
  rw [A5Y hnd]
  exact ⟨hns, fun b o e => hk₁ b o (ofg b o e), Nat.le_of_eq szg⟩
 have H : Do Γ' (A0U binds more) led [body] _ := hbody Γ' ⟨rfl, rfl, rfl, rfl, rfl, rfl, rfl, rfl⟩
 refine Run.use H S' fun fl h' tk' vs' led' S'' q => ?_
 obtain ⟨news', R'', N''⟩ := S''.N
 have q' : ∀ h tk, St Γ h vs led' → R (.ok (.ret (A2b fl))) (Γ.at h tk) := by cases fl <;> exact q
 refine lv (A2b fl) _ (leaveK_ (h₀ := Γ.h₀) (L := Γ.L) S''.F N'' fun FF NN => q' h' tk' { B := S.B, F := FF, X := S.X, T := S.T, hk := S.hk, N := ⟨news', R'', NN⟩, nd := S''.nd, nv := S.nv, hl := S.hl, hg := S.hg })
end
end Mine
namespace Mine
section
variable {Γ : Cx} {vs : A0e} {led : Led} {st : Stmt} {rest : List Stmt} {ks : List (List Stmt)} {Q : Flow → A0e → Led → Prop}
theorem B0x (st : Stmt) (env : Env) : execs [st] env = exec st env := by
 show (exec st env).bind _ = _
 have e : (fun f : Flow => (match f with | .next => execs [] env | f => pure f : Sem Flow)) = Sem.pure := by
  funext f; cases f <;> rfl
 exact (congrArg (Sem.bind (exec st env)) e).trans (Sem.bind_pure _)
theorem Do.join (J : A0e → Led → Prop) (H : Do Γ vs led [[st]] fun fl vs led => match fl with | .next => J vs led | f => Q f vs led) (q : ∀ vs led, J vs led → Do Γ vs led (rest :: ks) Q) : Do Γ vs led ((st :: rest) :: ks) Q := by
 refine A5Z ?_
 have H' : Run Γ vs led (execs [st] Γ.env) _ := H
 rw [B0x] at H'
 exact H'.mono fun f vs led h => by
  cases f with
  | next => exact q _ _ h
  | brk => exact h
  | cont => exact h
  | ret v => exact h
theorem A5q (r : List Stmt) (env : Env) : ∀ l : List Stmt, execs (l ++ r) env = (execs l env).bind fun f => match f with | .next => execs r env | f => .pure f
 | [] => rfl
 | s :: l => by
  show (exec s env).bind _ = ((exec s env).bind _).bind _
  rw [Sem.bind_assoc]
  congr 1
  funext f
  cases f with
  | next => exact A5q r env l
  | brk => rfl
  | cont => rfl
  | ret v => rfl
theorem Do.at (n : Nat) {ss : List Stmt} (J : A0e → Led → Prop) (H : Do Γ vs led [ss.take n] fun fl vs led => match fl with | .next => J vs led | f => Q f vs led) (q : ∀ vs led, J vs led → Do Γ vs led (ss.drop n :: ks) Q) : Do Γ vs led (ss :: ks) Q := by
 have H' : Run Γ vs led (execs (ss.take n) Γ.env) _ := H
 have e := A5q (ss.drop n) Γ.env (ss.take n)
 rw [List.take_append_drop] at e
 show Run Γ vs led (execs ss Γ.env) _
 rw [e]
 refine Run.thn H' fun f vs led h => ?_
 cases f with
 | next => exact q _ _ h
 | brk => exact Run.pure h
 | cont => exact Run.pure h
 | ret v => exact Run.pure h
end
end Mine
namespace Mine
noncomputable def A5R (P : Params) (C : Addr) (n : String) : Bool := plainGet (kf P) C (.ofString n) && hasDictIn (kf P) C && findIn (kf P) (.ref C) (.ofString n) == some none
noncomputable def A3V (P : Params) (C : Addr) (n : String × Addr) : Bool := plainGet (kf P) C (.ofString n.1) && findIn (kf P) (.ref C) (.ofString n.1) == some (some (.ref n.2)) && isFn (kf P) (.ref n.2) && keepIn (kf P) (.ref n.2)
noncomputable def A6e (FN : List String) (l : List (String × Addr)) : Bool := l.all fun n => !(FN.map Str.ofString).contains (.ofString n.1)
noncomputable def A9V (FN : List String) : Bool := decide (FN.map Str.ofString).Nodup && decide (FN.length ≤ 100)
noncomputable def A5U (P : Params) (C : Addr) (i : Addr) : Bool := findIn (kf P) (.ref C) "__setattr__" == some (some (.builtin "object.__setattr__")) && plainOver (kf P) C && hasDictIn (kf P) C &&
 makesIn (kf P) C && findIn (kf P) (.ref C) "__init__" == some (some (.ref i)) && isFn (kf P) (.ref i) && keepIn (kf P) (.ref C)
noncomputable def B9u (P : Params) (n : Addr) : Bool := keepIn (kf P) (.ref n)
noncomputable def gvOk (P : Params) (n : String × Value) : Bool := nsIn (kf P) mainGlobals (.ofString n.1) == some (some n.2)
noncomputable def gbOk (P : Params) (n : String × Value) : Bool := nsIn (kf P) mainGlobals (.ofString n.1) == some none
noncomputable def B6J (n : String × Value) : Bool := bootBuiltins (.ofString n.1) == some n.2 && !((Str.ofString n.1) == "__name__")
noncomputable def A3Z : List String := ["data", "at"]
noncomputable def A9Z : List (String × Addr) := [("varint", 243), ("lengthed", 264), ("flag", 278), ("done", 292)]
theorem A6w (P) : A3Z.all (A5R P 295) = true := by kernel_rfl
theorem A3F (P) : A9Z.all (A3V P 295) = true := by kernel_rfl
theorem A4M : A6e A3Z A9Z = true := by kernel_rfl
theorem B1A : A9V A3Z = true := by kernel_rfl
theorem B0A (P) : A5U P 295 229 = true := by kernel_rfl
noncomputable def A6W : List String := ["parts"]
noncomputable def B5C : List (String × Addr) := [("varint", 320), ("lengthed", 341), ("octet", 348), ("flag", 355), ("done", 369)]
theorem B1K (P) : A6W.all (A5R P 372) = true := by kernel_rfl
theorem A3U (P) : B5C.all (A3V P 372) = true := by kernel_rfl
theorem A5C : A6e A6W B5C = true := by kernel_rfl
theorem B5A : A9V A6W = true := by kernel_rfl
theorem B4l (P) : A5U P 372 313 = true := by kernel_rfl
noncomputable def A7I : List String := ["term", "index", "kind", "data"]
noncomputable def B2t : List (String × Addr) := [("copy", 418)]
theorem A4R (P) : A7I.all (A5R P 435) = true := by kernel_rfl
theorem A9l (P) : B2t.all (A3V P 435) = true := by kernel_rfl
theorem B1t : A6e A7I B2t = true := by kernel_rfl
theorem B3N : A9V A7I = true := by kernel_rfl
theorem B1N (P) : A5U P 435 404 = true := by kernel_rfl
noncomputable def A4S : List String := ["kind", "to", "frm", "term", "log_term", "index", "entries", "commit", "snapshot", "reject", "reject_hint", "context"]
noncomputable def A8K : List (String × Addr) := [("copy", 596)]
theorem A1m (P) : A4S.all (A5R P 599) = true := by kernel_rfl
theorem A7s (P) : A8K.all (A3V P 599) = true := by kernel_rfl
theorem A9f : A6e A4S A8K = true := by kernel_rfl
theorem A9W : A9V A4S = true := by kernel_rfl
theorem A9y (P) : A5U P 599 586 = true := by kernel_rfl
noncomputable def A7i : List String := ["fates", "wire", "lying", "late", "sent", "lost", "cuts", "groups"]
noncomputable def mNet : List (String × Addr) := [("send", 636), ("fate_of", 650), ("packed", 657), ("again", 664), ("ripen", 671), ("size", 678), ("take", 685), ("drop_for", 697), ("quiet", 704), ("cut", 711), ("cut_one", 718), ("heal", 730), ("calm", 737), ("linked", 744)]
theorem A3Y (P) : A7i.all (A5R P 747) = true := by kernel_rfl
theorem A1L (P) : mNet.all (A3V P 747) = true := by kernel_rfl
theorem A3k : A6e A7i mNet = true := by kernel_rfl
theorem B9k : A9V A7i = true := by kernel_rfl
theorem B6O (P) : A5U P 747 629 = true := by kernel_rfl
noncomputable def A1H : List String := ["rows", "weight"]
noncomputable def A5K : List (String × Addr) := [("put", 772), ("delete", 779), ("take_op", 786), ("count", 800), ("ops", 821)]
theorem A4v (P) : A1H.all (A5R P 831) = true := by kernel_rfl
theorem A1P (P) : A5K.all (A3V P 831) = true := by kernel_rfl
theorem A2o : A6e A1H A5K = true := by kernel_rfl
theorem A7o : A9V A1H = true := by kernel_rfl
theorem A6X (P) : A5U P 831 765 = true := by kernel_rfl
noncomputable def A4T : List String := ["kind", "client", "number", "key", "value", "expect"]
noncomputable def A8M : List (String × Addr) := [("encode", 870)]
theorem A2y (P) : A4T.all (A5R P 873) = true := by kernel_rfl
theorem A7t (P) : A8M.all (A3V P 873) = true := by kernel_rfl
theorem A9g : A6e A4T A8M = true := by kernel_rfl
theorem A9Y : A9V A4T = true := by kernel_rfl
theorem A9A (P) : A5U P 873 856 = true := by kernel_rfl
noncomputable def A1N : List String := ["store", "applied", "term", "conf_octets", "durable", "sync_each"]
noncomputable def A8L : List (String × Addr) := [("put_applied", 975), ("apply", 989), ("command_of", 996), ("do_command", 1003), ("do_effect", 1010), ("get", 1017), ("session_row", 1024), ("rows", 1038), ("sessions", 1045), ("row", 1052)]
theorem A2x (P) : A1N.all (A5R P 1055) = true := by kernel_rfl
theorem A1q (P) : A8L.all (A3V P 1055) = true := by kernel_rfl
theorem A1J : A6e A1N A8L = true := by kernel_rfl
theorem A9X : A9V A1N = true := by kernel_rfl
theorem A9z (P) : A5U P 1055 954 = true := by kernel_rfl
noncomputable def A2G : List String := ["now", "batches", "kept", "last"]
noncomputable def A7u : List (String × Addr) := [("write", 1087), ("take", 1094), ("get", 1115), ("scan", 1122)]
theorem A3p (P) : A2G.all (A5R P 1132) = true := by kernel_rfl
theorem A2V (P) : A7u.all (A3V P 1132) = true := by kernel_rfl
theorem A3E : A6e A2G A7u = true := by kernel_rfl
theorem A9j : A9V A2G = true := by kernel_rfl
theorem A8p (P) : A5U P 1132 1080 = true := by kernel_rfl
noncomputable def gvs : List (String × Value) := [("Corrupt", .ref 56), ("ShortOctets", .ref 68), ("BadOption", .ref 80), ("BatchRefused", .ref 92), ("BadCommand", .ref 116), ("AppliedGap", .ref 128), ("MAX_32", .int 4294967295 346), ("MAX_64", .int 18446744073709551615 348), ("write_groups", .ref 137), ("read_groups", .ref 144), ("put_varint", .ref 151), ("read_varint", .ref 158), ("put_varint32", .ref 165), ("read_varint32", .ref 172), ("varint_length", .ref 179), ("put_fixed32", .ref 186), ("put_fixed64", .ref 193), ("read_lengthed", .ref 214), ("Cursor", .ref 295), ("Sink", .ref 372), ("ENTRY_CONF", .int 2 652), ("Entry", .ref 435), ("encode_conf", .ref 509), ("Message", .ref 599), ("encode_message", .ref 610), ("decode_message", .ref 617), ("FATE_KEEP", .int 0 1002), ("FATE_LOSE", .int 1 1004), ("FATE_TWICE", .int 2 1006), ("FATE_FIRST", .int 3 1008), ("FATE_LATE", .int 4 1010), ("FATE_COUNT", .int 5 1012), ("LATE_BY", .int 2 1014), ("Net", .ref 747), ("KIND_DELETE", .int 0 1196), ("KIND_VALUE", .int 1 1198), ("BATCH_HEAD", .int 12 1202), ("WriteBatch", .ref 831), ("CMD_NONE", .int 0 1321), ("CMD_PUT", .int 1 1323), ("CMD_DELETE", .int 2 1325), ("CMD_CAS", .int 3 1327), ("CMD_OPEN", .int 5 1329), ("CMD_CLOSE", .int 6 1331), ("REPLY_OK", .int 0 1333), ("REPLY_NO", .int 1 1335), ("REPLY_UNKNOWN", .int 2 1337), ("REPLY_STALE", .int 3 1339), ("APPLIED_KEY", .bytes #[97] 1341), ("DATA_HEAD", .bytes #[100] 1343), ("DATA_END", .bytes #[101] 1345), ("SESSION_HEAD", .bytes #[115] 1347), ("SESSION_END", .bytes #[116] 1349), ("Command", .ref 873), ("put_maybe", .ref 884), ("take_maybe", .ref 891), ("decode_command", .ref 898), ("make_reply", .ref 905), ("data_key", .ref 912), ("session_key", .ref 919), ("client_of", .ref 926), ("encode_session", .ref 933), ("decode_session", .ref 940), ("Machine", .ref 1055), ("same_maybe", .ref 1066), ("MemStore", .ref 1132), ("_law_kinds", .ref 1143), ("_law_draw", .ref 1150), ("_law_maybe", .ref 1157), ("_law_send", .ref 1164), ("_law_hand", .ref 1171)]
theorem B9r (P) : gvs.all (gvOk P) = true := by kernel_rfl
noncomputable def gbs : List (String × Value) := [("bytearray", .type "bytearray"), ("bytes", .type "bytes"), ("len", .builtin "len"), ("list", .type "list"), ("max", .builtin "max"), ("range", .type "range"), ("sorted", .builtin "sorted"), ("tuple", .type "tuple")]
theorem B9s (P) : gbs.all (gbOk P) = true := by kernel_rfl
theorem B6H : gbs.all B6J = true := by kernel_rfl
noncomputable def dfs : List Addr := [165, 172, 179, 186, 193, 214, 884, 891, 898, 905, 912, 919, 926, 933, 940, 1066, 1143, 1150, 1157, 1164, 1171]
theorem B9C (P) : dfs.all (B9u P) = true := by kernel_rfl
theorem A0N {C : Addr} {l : List String} (h : ∀ P, l.all (A5R P C) = true) {n : String} (hm : n ∈ l) : Fld C (.ofString n) := fun P => by
 have := List.all_eq_true.mp (h P) n hm
 simp only [A5R, Bool.and_eq_true] at this
 exact ⟨this.1.1, this.1.2, by simpa using this.2⟩
theorem A0u {C : Addr} {FN : List String} {l : List (String × Addr)} (h : ∀ P, l.all (A3V P C) = true) (hs : A6e FN l = true) {n : String} {f : Addr} (hm : (n, f) ∈ l) : A2X C (.ofString n) f ∧ Str.ofString n ∉ FN.map Str.ofString ∧ A0B f := by
 have k := fun P => List.all_eq_true.mp (h P) _ hm
 simp only [A3V, Bool.and_eq_true] at k
 refine ⟨fun P => ⟨(k P).1.1.1, by simpa using (k P).1.1.2, (k P).1.2, (k P).2⟩, ?_, fun P => (k P).2⟩
 have := List.all_eq_true.mp hs _ hm
 rw [Bool.not_eq_true', ← Bool.not_eq_true, List.contains_iff_mem] at this
 exact this
structure Cls (C : Addr) (FN : List Str) (i : Addr) : Prop where
 takes : A5x C
 makes : ∀ P, makesIn (kf P) C = true ∧ findIn (kf P) (.ref C) "__init__" = some (some (.ref i)) ∧ isFn (kf P) (.ref i) = true
 keeps : A0B C
 nd : FN.Nodup
 hz : FN.length ≤ 100
theorem A4U {C : Addr} {FN : List String} {i : Addr} (h : ∀ P, A5U P C i = true) (hn : A9V FN = true) : Cls C (FN.map Str.ofString) i := by
 have k := fun P => h P
 simp only [A5U, Bool.and_eq_true] at k
 simp only [A9V, Bool.and_eq_true, decide_eq_true_eq] at hn
 refine ⟨fun P => ⟨?_, (k P).1.1.1.1.1.2, (k P).1.1.1.1.2⟩, fun P => ⟨(k P).1.1.1.2, ?_, (k P).1.2⟩, fun P => (k P).2, hn.1, by simpa using hn.2⟩
 ·simpa using (k P).1.1.1.1.1.1
 ·simpa using (k P).1.1.2
theorem A1e {n : String} {v : Value} (hm : (n, v) ∈ gvs) : GV (.ofString n) v := fun P => by
 have := List.all_eq_true.mp (B9r P) _ hm
 simpa [gvOk] using this
theorem A7F {n : String} {v : Value} (hm : (n, v) ∈ gbs) : GB (.ofString n) v := by
 have k := List.all_eq_true.mp B6H _ hm
 simp only [B6J, Bool.and_eq_true] at k
 exact ⟨fun P => by simpa [gbOk] using List.all_eq_true.mp (B9s P) _ hm, by simpa using k.1, by simpa using k.2⟩
theorem A2e {f : Addr} (hm : f ∈ dfs) : A0B f := fun P => List.all_eq_true.mp (B9C P) _ hm
end Mine
namespace Mine
noncomputable def chk (sc : Scope) (ls gl : List Str) : Bool := decide ls.Nodup && ls.all (fun x => decide (sc.names.lookup x = some .local) && !(x == ("__debug__" : Str))) && gl.all (fun x => decide (sc.names.lookup x = some .globalImplicit) && !(x == ("__debug__" : Str))) &&
 !sc.isCoroutine && !sc.isGenerator && decide (sc.kind = .function) && sc.names.all fun x => decide (x.2 ≠ .cell)
section
variable {Γ : Cx} {vs : A0e} {led : Led} {h : Heap} {tk : Nat}
structure FnAt (f : Addr) (name qual : Str) (params : Arguments) (body : List Stmt) (scope : Scope) (dV pm cdv : Value) : Prop where
 ho : ∀ P, (kf P).lookup f = some { cls := .type "function", data := .func (fnOf name qual params body scope dV .none .none pm none cdv .none) }
 hcd : ∀ P, codeIn (kf P) cdv qual = true
theorem B8j {f : Addr} {name qual : Str} {params : Arguments} {body : List Stmt} {scope : Scope} {dV pm cdv : Value} {args : List Value} {binds : List (Str × Value)} {Q : Value → A0e → Led → Prop} (F : FnAt f name qual params body scope dV pm cdv)
  (hroom : Γ.dp < recursionLimit) (hbind : ∀ s : Shared, (kf Γ.w.params).In s.heap → BindsTo s (fnOf name qual params body scope dV .none .none pm none cdv .none) ⟨args, []⟩ binds) (more gl : List Str) (hc : chk scope ((A0U binds more).map (·.1)) gl = true)
  (hbody : ∀ Γ', Γ.Under Γ.A scope gl Γ' → Do Γ' (A0U binds more) led [body] fun fl _ led' => Q (A2b fl) vs led') : Run Γ vs led (call (.ref f) args) Q := fun h tk S => by
 simp only [chk, Bool.and_eq_true, decide_eq_true_eq, List.all_eq_true, Bool.not_eq_true'] at hc
 obtain ⟨⟨⟨⟨⟨⟨h1, h2⟩, h3⟩, h4⟩, h5⟩, h6⟩, h7⟩ := hc
 refine A1E (enter (R := fun r s' => match r with | .ok (.ret v) => Post Γ Q v s' | .ok _ => False | .error e => NoE e s') rfl rfl hroom F.ho F.hcd hbind more gl h1 (fun x hx => h2 x hx) (fun x hx => h3 x hx) h4 h5 h6 (fun x hx => h7 x hx) (fun Γ' U => ?_) S)
 have H := hbody Γ' U
 exact Run.mono H fun fl vs' led' q => by
  cases fl <;> exact fun h tk S => Post.mk S q
end
end Mine
namespace Mine
section
theorem ix {α : Type} {l : List α} {a : α} (i : Nat) (h : l[i]? = some a) : a ∈ l := List.mem_of_getElem? h
theorem A8m {f : Addr} {o : Obj} {name qual : Str} {params : Arguments} {body : List Stmt} {scope : Scope} {dV pm cdv : Value} (h : ∀ P, (kf P).lookup f = some o) (hc : ∀ P, codeIn (kf P) cdv qual = true)
  (e : o = { cls := .type "function", data := .func (fnOf name qual params body scope dV .none .none pm none cdv .none) }) : FnAt f name qual params body scope dV pm cdv := ⟨e ▸ h, hc⟩
theorem A0V : Fld 295 "data" := A0N A6w (ix 0 rfl)
theorem A0F : Fld 295 "at" := A0N A6w (ix 1 rfl)
theorem A0J : A2X 295 "varint" 243 ∧ Str.ofString "varint" ∉ A3Z.map Str.ofString ∧ A0B 243 := A0u A3F A4M (ix 0 rfl)
theorem A0O : A2X 295 "lengthed" 264 ∧ Str.ofString "lengthed" ∉ A3Z.map Str.ofString ∧ A0B 264 := A0u A3F A4M (ix 1 rfl)
theorem A3s : A2X 295 "flag" 278 ∧ Str.ofString "flag" ∉ A3Z.map Str.ofString ∧ A0B 278 := A0u A3F A4M (ix 2 rfl)
theorem A2B : A2X 295 "done" 292 ∧ Str.ofString "done" ∉ A3Z.map Str.ofString ∧ A0B 292 := A0u A3F A4M (ix 3 rfl)
theorem A2H : Cls 295 (A3Z.map Str.ofString) 229 := A4U B0A B1A
theorem A4H : A5x 295 := A2H.takes
theorem A1r : Fld 372 "parts" := A0N B1K (ix 0 rfl)
theorem A1h : A2X 372 "varint" 320 ∧ Str.ofString "varint" ∉ A6W.map Str.ofString ∧ A0B 320 := A0u A3U A5C (ix 0 rfl)
theorem A1l : A2X 372 "lengthed" 341 ∧ Str.ofString "lengthed" ∉ A6W.map Str.ofString ∧ A0B 341 := A0u A3U A5C (ix 1 rfl)
theorem A4N : A2X 372 "octet" 348 ∧ Str.ofString "octet" ∉ A6W.map Str.ofString ∧ A0B 348 := A0u A3U A5C (ix 2 rfl)
theorem A3Q : A2X 372 "flag" 355 ∧ Str.ofString "flag" ∉ A6W.map Str.ofString ∧ A0B 355 := A0u A3U A5C (ix 3 rfl)
theorem A2j : A2X 372 "done" 369 ∧ Str.ofString "done" ∉ A6W.map Str.ofString ∧ A0B 369 := A0u A3U A5C (ix 4 rfl)
theorem A4a : Cls 372 (A6W.map Str.ofString) 313 := A4U B4l B5A
theorem A2D : Fld 435 "term" := A0N A4R (ix 0 rfl)
theorem A1T : Fld 435 "index" := A0N A4R (ix 1 rfl)
theorem A2d : Fld 435 "kind" := A0N A4R (ix 2 rfl)
theorem A1i : Fld 435 "data" := A0N A4R (ix 3 rfl)
theorem A6I : A2X 435 "copy" 418 ∧ Str.ofString "copy" ∉ A7I.map Str.ofString ∧ A0B 418 := A0u A9l B1t (ix 0 rfl)
theorem A3q : Cls 435 (A7I.map Str.ofString) 404 := A4U B1N B3N
theorem A2N : Fld 599 "kind" := A0N A1m (ix 0 rfl)
theorem A0C : Fld 599 "to" := A0N A1m (ix 1 rfl)
theorem A1t : Fld 599 "frm" := A0N A1m (ix 2 rfl)
theorem A2M : Fld 599 "term" := A0N A1m (ix 3 rfl)
theorem A1o : Fld 599 "log_term" := A0N A1m (ix 4 rfl)
theorem A0l : Fld 599 "index" := A0N A1m (ix 5 rfl)
theorem A0X : Fld 599 "entries" := A0N A1m (ix 6 rfl)
theorem A1z : Fld 599 "commit" := A0N A1m (ix 7 rfl)
theorem A2c : Fld 599 "snapshot" := A0N A1m (ix 8 rfl)
theorem A1y : Fld 599 "reject" := A0N A1m (ix 9 rfl)
theorem A1a : Fld 599 "reject_hint" := A0N A1m (ix 10 rfl)
theorem A0x : Fld 599 "context" := A0N A1m (ix 11 rfl)
theorem A2p : A2X 599 "copy" 596 ∧ Str.ofString "copy" ∉ A4S.map Str.ofString ∧ A0B 596 := A0u A7s A9f (ix 0 rfl)
theorem A0S : Cls 599 (A4S.map Str.ofString) 586 := A4U A9y A9W
theorem A0Q : A5x 599 := A0S.takes
theorem A1X : Fld 747 "fates" := A0N A3Y (ix 0 rfl)
theorem A2m : Fld 747 "wire" := A0N A3Y (ix 1 rfl)
theorem A0t : Fld 747 "lying" := A0N A3Y (ix 2 rfl)
theorem A1k : Fld 747 "late" := A0N A3Y (ix 3 rfl)
theorem A1Q : Fld 747 "sent" := A0N A3Y (ix 4 rfl)
theorem A1j : Fld 747 "lost" := A0N A3Y (ix 5 rfl)
theorem A1R : Fld 747 "cuts" := A0N A3Y (ix 6 rfl)
theorem A3t : Fld 747 "groups" := A0N A3Y (ix 7 rfl)
theorem A5G : A2X 747 "send" 636 ∧ Str.ofString "send" ∉ A7i.map Str.ofString ∧ A0B 636 := A0u A1L A3k (ix 0 rfl)
theorem A4q : A2X 747 "fate_of" 650 ∧ Str.ofString "fate_of" ∉ A7i.map Str.ofString ∧ A0B 650 := A0u A1L A3k (ix 1 rfl)
theorem A2T : A2X 747 "packed" 657 ∧ Str.ofString "packed" ∉ A7i.map Str.ofString ∧ A0B 657 := A0u A1L A3k (ix 2 rfl)
theorem A7q : A2X 747 "again" 664 ∧ Str.ofString "again" ∉ A7i.map Str.ofString ∧ A0B 664 := A0u A1L A3k (ix 3 rfl)
theorem A2k : A2X 747 "ripen" 671 ∧ Str.ofString "ripen" ∉ A7i.map Str.ofString ∧ A0B 671 := A0u A1L A3k (ix 4 rfl)
theorem A8e : A2X 747 "size" 678 ∧ Str.ofString "size" ∉ A7i.map Str.ofString ∧ A0B 678 := A0u A1L A3k (ix 5 rfl)
theorem A3a : A2X 747 "take" 685 ∧ Str.ofString "take" ∉ A7i.map Str.ofString ∧ A0B 685 := A0u A1L A3k (ix 6 rfl)
theorem A5I : A2X 747 "drop_for" 697 ∧ Str.ofString "drop_for" ∉ A7i.map Str.ofString ∧ A0B 697 := A0u A1L A3k (ix 7 rfl)
theorem A7p : A2X 747 "quiet" 704 ∧ Str.ofString "quiet" ∉ A7i.map Str.ofString ∧ A0B 704 := A0u A1L A3k (ix 8 rfl)
theorem A9k : A2X 747 "cut" 711 ∧ Str.ofString "cut" ∉ A7i.map Str.ofString ∧ A0B 711 := A0u A1L A3k (ix 9 rfl)
theorem A2A : A2X 747 "cut_one" 718 ∧ Str.ofString "cut_one" ∉ A7i.map Str.ofString ∧ A0B 718 := A0u A1L A3k (ix 10 rfl)
theorem A5H : A2X 747 "heal" 730 ∧ Str.ofString "heal" ∉ A7i.map Str.ofString ∧ A0B 730 := A0u A1L A3k (ix 11 rfl)
theorem A8f : A2X 747 "calm" 737 ∧ Str.ofString "calm" ∉ A7i.map Str.ofString ∧ A0B 737 := A0u A1L A3k (ix 12 rfl)
theorem A2U : A2X 747 "linked" 744 ∧ Str.ofString "linked" ∉ A7i.map Str.ofString ∧ A0B 744 := A0u A1L A3k (ix 13 rfl)
theorem A4b : Cls 747 (A7i.map Str.ofString) 629 := A4U B6O B9k
theorem A3j : A5x 747 := A4b.takes
theorem A1s : Fld 831 "rows" := A0N A4v (ix 0 rfl)
theorem A0I : Fld 831 "weight" := A0N A4v (ix 1 rfl)
theorem A0K : A2X 831 "put" 772 ∧ Str.ofString "put" ∉ A1H.map Str.ofString ∧ A0B 772 := A0u A1P A2o (ix 0 rfl)
theorem A4l : A2X 831 "delete" 779 ∧ Str.ofString "delete" ∉ A1H.map Str.ofString ∧ A0B 779 := A0u A1P A2o (ix 1 rfl)
theorem A2F : A2X 831 "take_op" 786 ∧ Str.ofString "take_op" ∉ A1H.map Str.ofString ∧ A0B 786 := A0u A1P A2o (ix 2 rfl)
theorem A4z : A2X 831 "count" 800 ∧ Str.ofString "count" ∉ A1H.map Str.ofString ∧ A0B 800 := A0u A1P A2o (ix 3 rfl)
theorem A5b : A2X 831 "ops" 821 ∧ Str.ofString "ops" ∉ A1H.map Str.ofString ∧ A0B 821 := A0u A1P A2o (ix 4 rfl)
theorem A2r : Cls 831 (A1H.map Str.ofString) 765 := A4U A6X A7o
theorem A3D : A5x 831 := A2r.takes
theorem A0h : Fld 873 "kind" := A0N A2y (ix 0 rfl)
theorem A0G : Fld 873 "client" := A0N A2y (ix 1 rfl)
theorem A0r : Fld 873 "number" := A0N A2y (ix 2 rfl)
theorem A0w : Fld 873 "key" := A0N A2y (ix 3 rfl)
theorem A0M : Fld 873 "value" := A0N A2y (ix 4 rfl)
theorem A0P : Fld 873 "expect" := A0N A2y (ix 5 rfl)
theorem A3u : A2X 873 "encode" 870 ∧ Str.ofString "encode" ∉ A4T.map Str.ofString ∧ A0B 870 := A0u A7t A9g (ix 0 rfl)
theorem A1w : Cls 873 (A4T.map Str.ofString) 856 := A4U A9A A9Y
theorem A0i : Fld 1055 "store" := A0N A2x (ix 0 rfl)
theorem A1u : Fld 1055 "applied" := A0N A2x (ix 1 rfl)
theorem A2g : Fld 1055 "term" := A0N A2x (ix 2 rfl)
theorem A1b : Fld 1055 "conf_octets" := A0N A2x (ix 3 rfl)
theorem A4D : Fld 1055 "durable" := A0N A2x (ix 4 rfl)
theorem A1S : Fld 1055 "sync_each" := A0N A2x (ix 5 rfl)
theorem A3L : A2X 1055 "put_applied" 975 ∧ Str.ofString "put_applied" ∉ A1N.map Str.ofString ∧ A0B 975 := A0u A1q A1J (ix 0 rfl)
theorem A5u : A2X 1055 "apply" 989 ∧ Str.ofString "apply" ∉ A1N.map Str.ofString ∧ A0B 989 := A0u A1q A1J (ix 1 rfl)
theorem A3T : A2X 1055 "command_of" 996 ∧ Str.ofString "command_of" ∉ A1N.map Str.ofString ∧ A0B 996 := A0u A1q A1J (ix 2 rfl)
theorem A3S : A2X 1055 "do_command" 1003 ∧ Str.ofString "do_command" ∉ A1N.map Str.ofString ∧ A0B 1003 := A0u A1q A1J (ix 3 rfl)
theorem A2Q : A2X 1055 "do_effect" 1010 ∧ Str.ofString "do_effect" ∉ A1N.map Str.ofString ∧ A0B 1010 := A0u A1q A1J (ix 4 rfl)
theorem A4s : A2X 1055 "get" 1017 ∧ Str.ofString "get" ∉ A1N.map Str.ofString ∧ A0B 1017 := A0u A1q A1J (ix 5 rfl)
theorem A1v : A2X 1055 "session_row" 1024 ∧ Str.ofString "session_row" ∉ A1N.map Str.ofString ∧ A0B 1024 := A0u A1q A1J (ix 6 rfl)
theorem A3R : A2X 1055 "rows" 1038 ∧ Str.ofString "rows" ∉ A1N.map Str.ofString ∧ A0B 1038 := A0u A1q A1J (ix 7 rfl)
theorem A3b : A2X 1055 "sessions" 1045 ∧ Str.ofString "sessions" ∉ A1N.map Str.ofString ∧ A0B 1045 := A0u A1q A1J (ix 8 rfl)
theorem A4r : A2X 1055 "row" 1052 ∧ Str.ofString "row" ∉ A1N.map Str.ofString ∧ A0B 1052 := A0u A1q A1J (ix 9 rfl)
theorem A1Z : Cls 1055 (A1N.map Str.ofString) 954 := A4U A9z A9X
theorem A4Z : A5x 1055 := A1Z.takes
theorem A1d : Fld 1132 "now" := A0N A3p (ix 0 rfl)
theorem A2R : Fld 1132 "batches" := A0N A3p (ix 1 rfl)
theorem A5f : Fld 1132 "kept" := A0N A3p (ix 2 rfl)
theorem A1Y : Fld 1132 "last" := A0N A3p (ix 3 rfl)
theorem A5c : A2X 1132 "write" 1087 ∧ Str.ofString "write" ∉ A2G.map Str.ofString ∧ A0B 1087 := A0u A2V A3E (ix 0 rfl)
theorem A5t : A2X 1132 "take" 1094 ∧ Str.ofString "take" ∉ A2G.map Str.ofString ∧ A0B 1094 := A0u A2V A3E (ix 1 rfl)
theorem A0s : A2X 1132 "get" 1115 ∧ Str.ofString "get" ∉ A2G.map Str.ofString ∧ A0B 1115 := A0u A2V A3E (ix 2 rfl)
theorem A2J : A2X 1132 "scan" 1122 ∧ Str.ofString "scan" ∉ A2G.map Str.ofString ∧ A0B 1122 := A0u A2V A3E (ix 3 rfl)
theorem A2i : Cls 1132 (A2G.map Str.ofString) 1080 := A4U A8p A9j
theorem A8c : A5x 1132 := A2i.takes
theorem B6C : A0B 165 := A2e (ix 0 rfl)
theorem B6B : A0B 172 := A2e (ix 1 rfl)
theorem B0o : A0B 179 := A2e (ix 2 rfl)
theorem B2M : A0B 186 := A2e (ix 3 rfl)
theorem B6A : A0B 193 := A2e (ix 4 rfl)
theorem B6z : A0B 214 := A2e (ix 5 rfl)
theorem A8O : A0B 884 := A2e (ix 6 rfl)
theorem B0n : A0B 891 := A2e (ix 7 rfl)
theorem B0m : A0B 898 := A2e (ix 8 rfl)
theorem A3w : A0B 905 := A2e (ix 9 rfl)
theorem A3v : A0B 912 := A2e (ix 10 rfl)
theorem A8N : A0B 919 := A2e (ix 11 rfl)
theorem B6y : A0B 926 := A2e (ix 12 rfl)
theorem B2L : A0B 933 := A2e (ix 13 rfl)
theorem B2K : A0B 940 := A2e (ix 14 rfl)
theorem A5N : A0B 1066 := A2e (ix 15 rfl)
theorem B4c : A0B 1143 := A2e (ix 16 rfl)
theorem A8i : A0B 1150 := A2e (ix 17 rfl)
theorem B4b : A0B 1157 := A2e (ix 18 rfl)
theorem B0p : A0B 1164 := A2e (ix 19 rfl)
theorem A5d : A0B 1171 := A2e (ix 20 rfl)
theorem A5P : GV "MAX_32" (.int 4294967295 346) := A1e (ix 6 rfl)
theorem A7z : GV "MAX_64" (.int 18446744073709551615 348) := A1e (ix 7 rfl)
theorem A5O : GV "put_varint32" (.ref 165) := A1e (ix 12 rfl)
theorem A5v : GV "read_varint32" (.ref 172) := A1e (ix 13 rfl)
theorem A2L : GV "varint_length" (.ref 179) := A1e (ix 14 rfl)
theorem A4u : GV "put_fixed32" (.ref 186) := A1e (ix 15 rfl)
theorem A6h : GV "put_fixed64" (.ref 193) := A1e (ix 16 rfl)
theorem A5w : GV "read_lengthed" (.ref 214) := A1e (ix 17 rfl)
theorem A4Q : GV "Cursor" (.ref 295) := A1e (ix 18 rfl)
theorem A5e : GV "Sink" (.ref 372) := A1e (ix 19 rfl)
theorem A3H : GV "ENTRY_CONF" (.int 2 652) := A1e (ix 20 rfl)
theorem A6U : GV "Entry" (.ref 435) := A1e (ix 21 rfl)
theorem A4g : GV "Message" (.ref 599) := A1e (ix 23 rfl)
theorem A7C : GV "FATE_KEEP" (.int 0 1002) := A1e (ix 26 rfl)
theorem A7A : GV "FATE_LOSE" (.int 1 1004) := A1e (ix 27 rfl)
theorem A6R : GV "FATE_TWICE" (.int 2 1006) := A1e (ix 28 rfl)
theorem A6S : GV "FATE_FIRST" (.int 3 1008) := A1e (ix 29 rfl)
theorem A7B : GV "FATE_LATE" (.int 4 1010) := A1e (ix 30 rfl)
theorem A6T : GV "FATE_COUNT" (.int 5 1012) := A1e (ix 31 rfl)
theorem A9t : GV "LATE_BY" (.int 2 1014) := A1e (ix 32 rfl)
theorem B6F : GV "Net" (.ref 747) := A1e (ix 33 rfl)
theorem A6k : GV "KIND_DELETE" (.int 0 1196) := A1e (ix 34 rfl)
theorem A1W : GV "KIND_VALUE" (.int 1 1198) := A1e (ix 35 rfl)
theorem A6V : GV "BATCH_HEAD" (.int 12 1202) := A1e (ix 36 rfl)
theorem A6Q : GV "WriteBatch" (.ref 831) := A1e (ix 37 rfl)
theorem A0Z : GV "CMD_NONE" (.int 0 1321) := A1e (ix 38 rfl)
theorem A1C : GV "CMD_PUT" (.int 1 1323) := A1e (ix 39 rfl)
theorem A1p : GV "CMD_DELETE" (.int 2 1325) := A1e (ix 40 rfl)
theorem A2v : GV "CMD_CAS" (.int 3 1327) := A1e (ix 41 rfl)
theorem A1g : GV "CMD_OPEN" (.int 5 1329) := A1e (ix 42 rfl)
theorem A0z : GV "CMD_CLOSE" (.int 6 1331) := A1e (ix 43 rfl)
theorem A1G : GV "REPLY_OK" (.int 0 1333) := A1e (ix 44 rfl)
theorem A4C : GV "REPLY_NO" (.int 1 1335) := A1e (ix 45 rfl)
theorem A6j : GV "REPLY_STALE" (.int 3 1339) := A1e (ix 47 rfl)
theorem A6l : GV "APPLIED_KEY" (.bytes #[97] 1341) := A1e (ix 48 rfl)
theorem A3o : GV "DATA_HEAD" (.bytes #[100] 1343) := A1e (ix 49 rfl)
theorem A5Q : GV "DATA_END" (.bytes #[101] 1345) := A1e (ix 50 rfl)
theorem A3d : GV "SESSION_HEAD" (.bytes #[115] 1347) := A1e (ix 51 rfl)
theorem A6i : GV "SESSION_END" (.bytes #[116] 1349) := A1e (ix 52 rfl)
theorem A3A : GV "Command" (.ref 873) := A1e (ix 53 rfl)
theorem A3n : GV "put_maybe" (.ref 884) := A1e (ix 54 rfl)
theorem A3G : GV "take_maybe" (.ref 891) := A1e (ix 55 rfl)
theorem A2u : GV "decode_command" (.ref 898) := A1e (ix 56 rfl)
theorem A0L : GV "make_reply" (.ref 905) := A1e (ix 57 rfl)
theorem A1f : GV "data_key" (.ref 912) := A1e (ix 58 rfl)
theorem A2C : GV "session_key" (.ref 919) := A1e (ix 59 rfl)
theorem A7y : GV "client_of" (.ref 926) := A1e (ix 60 rfl)
theorem A3y : GV "encode_session" (.ref 933) := A1e (ix 61 rfl)
theorem A3z : GV "decode_session" (.ref 940) := A1e (ix 62 rfl)
theorem A9s : GV "Machine" (.ref 1055) := A1e (ix 63 rfl)
theorem A2q : GV "same_maybe" (.ref 1066) := A1e (ix 64 rfl)
theorem A8k : GV "MemStore" (.ref 1132) := A1e (ix 65 rfl)
theorem A6P : GV "_law_kinds" (.ref 1143) := A1e (ix 66 rfl)
theorem A3X : GV "_law_draw" (.ref 1150) := A1e (ix 67 rfl)
theorem A6O : GV "_law_maybe" (.ref 1157) := A1e (ix 68 rfl)
theorem A5p : GV "_law_send" (.ref 1164) := A1e (ix 69 rfl)
theorem A2l : GV "_law_hand" (.ref 1171) := A1e (ix 70 rfl)
theorem A7G : GB "bytearray" (.type "bytearray") := A7F (ix 0 rfl)
theorem A2f : GB "bytes" (.type "bytes") := A7F (ix 1 rfl)
theorem A1n : GB "len" (.builtin "len") := A7F (ix 2 rfl)
theorem B4i : GB "list" (.type "list") := A7F (ix 3 rfl)
theorem B6I : GB "max" (.builtin "max") := A7F (ix 4 rfl)
theorem A4i : GB "range" (.type "range") := A7F (ix 5 rfl)
theorem B0v : GB "sorted" (.builtin "sorted") := A7F (ix 6 rfl)
theorem A4h : GB "tuple" (.type "tuple") := A7F (ix 7 rfl)
theorem B6p (P) : (kf P).lookup 165 = some (fnO "put_varint32" (vs "raftkeep.octets" 344) (.none) 164 (A0T 18)) := by kernel_rfl
theorem B7B (P) : codeIn (kf P) (.ref 164) "put_varint32" = true := by kernel_rfl
theorem B6o (P) : (kf P).lookup 172 = some (fnO "read_varint32" (vs "raftkeep.octets" 344) (.none) 171 (A0T 19)) := by kernel_rfl
theorem B7A (P) : codeIn (kf P) (.ref 171) "read_varint32" = true := by kernel_rfl
theorem B6n (P) : (kf P).lookup 179 = some (fnO "varint_length" (vs "raftkeep.octets" 344) (.none) 178 (A0T 20)) := by kernel_rfl
theorem B7z (P) : codeIn (kf P) (.ref 178) "varint_length" = true := by kernel_rfl
theorem B2J (P) : (kf P).lookup 186 = some (fnO "put_fixed32" (vs "raftkeep.octets" 344) (.none) 185 (A0T 21)) := by kernel_rfl
theorem B3j (P) : codeIn (kf P) (.ref 185) "put_fixed32" = true := by kernel_rfl
theorem B6m (P) : (kf P).lookup 193 = some (fnO "put_fixed64" (vs "raftkeep.octets" 344) (.none) 192 (A0T 22)) := by kernel_rfl
theorem B7y (P) : codeIn (kf P) (.ref 192) "put_fixed64" = true := by kernel_rfl
theorem B6l (P) : (kf P).lookup 214 = some (fnO "read_lengthed" (vs "raftkeep.octets" 344) (.none) 213 (A0T 25)) := by kernel_rfl
theorem B7x (P) : codeIn (kf P) (.ref 213) "read_lengthed" = true := by kernel_rfl
theorem B6k (P) : (kf P).lookup 229 = some (fnO "Cursor.__init__" (vs "raftkeep.octets" 344) (.ref 222) 228 (A0j 26 0)) := by kernel_rfl
theorem B7w (P) : codeIn (kf P) (.ref 228) "Cursor.__init__" = true := by kernel_rfl
theorem B6j (P) : (kf P).lookup 243 = some (fnO "Cursor.varint" (vs "raftkeep.octets" 344) (.none) 242 (A0j 26 2)) := by kernel_rfl
theorem B7v (P) : codeIn (kf P) (.ref 242) "Cursor.varint" = true := by kernel_rfl
theorem B6i (P) : (kf P).lookup 264 = some (fnO "Cursor.lengthed" (vs "raftkeep.octets" 344) (.none) 263 (A0j 26 5)) := by kernel_rfl
theorem B7u (P) : codeIn (kf P) (.ref 263) "Cursor.lengthed" = true := by kernel_rfl
theorem B2I (P) : (kf P).lookup 278 = some (fnO "Cursor.flag" (vs "raftkeep.octets" 344) (.none) 277 (A0j 26 7)) := by kernel_rfl
theorem B3i (P) : codeIn (kf P) (.ref 277) "Cursor.flag" = true := by kernel_rfl
theorem B6h (P) : (kf P).lookup 292 = some (fnO "Cursor.done" (vs "raftkeep.octets" 344) (.none) 291 (A0j 26 9)) := by kernel_rfl
theorem B7t (P) : codeIn (kf P) (.ref 291) "Cursor.done" = true := by kernel_rfl
theorem B6g (P) : (kf P).lookup 313 = some (fnO "Sink.__init__" (vs "raftkeep.octets" 344) (.none) 312 (A0j 27 0)) := by kernel_rfl
theorem B7s (P) : codeIn (kf P) (.ref 312) "Sink.__init__" = true := by kernel_rfl
theorem B6f (P) : (kf P).lookup 320 = some (fnO "Sink.varint" (vs "raftkeep.octets" 344) (.none) 319 (A0j 27 1)) := by kernel_rfl
theorem B7r (P) : codeIn (kf P) (.ref 319) "Sink.varint" = true := by kernel_rfl
theorem B6e (P) : (kf P).lookup 341 = some (fnO "Sink.lengthed" (vs "raftkeep.octets" 344) (.none) 340 (A0j 27 4)) := by kernel_rfl
theorem B7q (P) : codeIn (kf P) (.ref 340) "Sink.lengthed" = true := by kernel_rfl
theorem B6d (P) : (kf P).lookup 348 = some (fnO "Sink.octet" (vs "raftkeep.octets" 344) (.none) 347 (A0j 27 5)) := by kernel_rfl
theorem B7p (P) : codeIn (kf P) (.ref 347) "Sink.octet" = true := by kernel_rfl
theorem B2H (P) : (kf P).lookup 355 = some (fnO "Sink.flag" (vs "raftkeep.octets" 344) (.none) 354 (A0j 27 6)) := by kernel_rfl
theorem B3h (P) : codeIn (kf P) (.ref 354) "Sink.flag" = true := by kernel_rfl
theorem B6c (P) : (kf P).lookup 369 = some (fnO "Sink.done" (vs "raftkeep.octets" 344) (.none) 368 (A0j 27 8)) := by kernel_rfl
theorem B7o (P) : codeIn (kf P) (.ref 368) "Sink.done" = true := by kernel_rfl
theorem B6b (P) : (kf P).lookup 404 = some (fnO "Entry.__init__" (vs "raftkeep.messages" 646) (.none) 403 (A0j 34 0)) := by kernel_rfl
theorem B7n (P) : codeIn (kf P) (.ref 403) "Entry.__init__" = true := by kernel_rfl
theorem B6a (P) : (kf P).lookup 418 = some (fnO "Entry.copy" (vs "raftkeep.messages" 646) (.none) 417 (A0j 34 2)) := by kernel_rfl
theorem B7m (P) : codeIn (kf P) (.ref 417) "Entry.copy" = true := by kernel_rfl
theorem B5Z (P) : (kf P).lookup 586 = some (fnO "Message.__init__" (vs "raftkeep.messages" 646) (.none) 585 (A0j 45 0)) := by kernel_rfl
theorem B7l (P) : codeIn (kf P) (.ref 585) "Message.__init__" = true := by kernel_rfl
theorem B2G (P) : (kf P).lookup 596 = some (fnO "Message.copy" (vs "raftkeep.messages" 646) (.none) 595 (A0j 45 2)) := by kernel_rfl
theorem B3g (P) : codeIn (kf P) (.ref 595) "Message.copy" = true := by kernel_rfl
theorem B5Y (P) : (kf P).lookup 629 = some (fnO "Net.__init__" (vs "raftkeep.network" 1000) (.none) 628 (A0j 56 0)) := by kernel_rfl
theorem B7k (P) : codeIn (kf P) (.ref 628) "Net.__init__" = true := by kernel_rfl
theorem B2F (P) : (kf P).lookup 636 = some (fnO "Net.send" (vs "raftkeep.network" 1000) (.none) 635 (A0j 56 1)) := by kernel_rfl
theorem B3f (P) : codeIn (kf P) (.ref 635) "Net.send" = true := by kernel_rfl
theorem B2E (P) : (kf P).lookup 650 = some (fnO "Net.fate_of" (vs "raftkeep.network" 1000) (.none) 649 (A0j 56 3)) := by kernel_rfl
theorem B3e (P) : codeIn (kf P) (.ref 649) "Net.fate_of" = true := by kernel_rfl
theorem B2D (P) : (kf P).lookup 657 = some (fnO "Net.packed" (vs "raftkeep.network" 1000) (.none) 656 (A0j 56 4)) := by kernel_rfl
theorem B3d (P) : codeIn (kf P) (.ref 656) "Net.packed" = true := by kernel_rfl
theorem B2C (P) : (kf P).lookup 664 = some (fnO "Net.again" (vs "raftkeep.network" 1000) (.none) 663 (A0j 56 5)) := by kernel_rfl
theorem B3c (P) : codeIn (kf P) (.ref 663) "Net.again" = true := by kernel_rfl
theorem B5X (P) : (kf P).lookup 671 = some (fnO "Net.ripen" (vs "raftkeep.network" 1000) (.none) 670 (A0j 56 6)) := by kernel_rfl
theorem B7j (P) : codeIn (kf P) (.ref 670) "Net.ripen" = true := by kernel_rfl
theorem B5W (P) : (kf P).lookup 678 = some (fnO "Net.size" (vs "raftkeep.network" 1000) (.none) 677 (A0j 56 7)) := by kernel_rfl
theorem B7i (P) : codeIn (kf P) (.ref 677) "Net.size" = true := by kernel_rfl
theorem B2B (P) : (kf P).lookup 685 = some (fnO "Net.take" (vs "raftkeep.network" 1000) (.none) 684 (A0j 56 8)) := by kernel_rfl
theorem B3b (P) : codeIn (kf P) (.ref 684) "Net.take" = true := by kernel_rfl
theorem B5V (P) : (kf P).lookup 697 = some (fnO "Net.drop_for" (vs "raftkeep.network" 1000) (.none) 696 (A0j 56 10)) := by kernel_rfl
theorem B7h (P) : codeIn (kf P) (.ref 696) "Net.drop_for" = true := by kernel_rfl
theorem B5U (P) : (kf P).lookup 704 = some (fnO "Net.quiet" (vs "raftkeep.network" 1000) (.none) 703 (A0j 56 11)) := by kernel_rfl
theorem B7g (P) : codeIn (kf P) (.ref 703) "Net.quiet" = true := by kernel_rfl
theorem B5T (P) : (kf P).lookup 711 = some (fnO "Net.cut" (vs "raftkeep.network" 1000) (.none) 710 (A0j 56 12)) := by kernel_rfl
theorem B7f (P) : codeIn (kf P) (.ref 710) "Net.cut" = true := by kernel_rfl
theorem B2A (P) : (kf P).lookup 718 = some (fnO "Net.cut_one" (vs "raftkeep.network" 1000) (.none) 717 (A0j 56 13)) := by kernel_rfl
theorem B3a (P) : codeIn (kf P) (.ref 717) "Net.cut_one" = true := by kernel_rfl
theorem B5S (P) : (kf P).lookup 730 = some (fnO "Net.heal" (vs "raftkeep.network" 1000) (.none) 729 (A0j 56 15)) := by kernel_rfl
theorem B7e (P) : codeIn (kf P) (.ref 729) "Net.heal" = true := by kernel_rfl
theorem B5R (P) : (kf P).lookup 737 = some (fnO "Net.calm" (vs "raftkeep.network" 1000) (.none) 736 (A0j 56 16)) := by kernel_rfl
theorem B7d (P) : codeIn (kf P) (.ref 736) "Net.calm" = true := by kernel_rfl
theorem B2z (P) : (kf P).lookup 744 = some (fnO "Net.linked" (vs "raftkeep.network" 1000) (.none) 743 (A0j 56 17)) := by kernel_rfl
theorem B2Z (P) : codeIn (kf P) (.ref 743) "Net.linked" = true := by kernel_rfl
theorem B5Q (P) : (kf P).lookup 765 = some (fnO "WriteBatch.__init__" (vs "raftkeep.keys" 1194) (.none) 764 (A0j 62 0)) := by kernel_rfl
theorem B7c (P) : codeIn (kf P) (.ref 764) "WriteBatch.__init__" = true := by kernel_rfl
theorem B5P (P) : (kf P).lookup 772 = some (fnO "WriteBatch.put" (vs "raftkeep.keys" 1194) (.none) 771 (A0j 62 1)) := by kernel_rfl
theorem B7b (P) : codeIn (kf P) (.ref 771) "WriteBatch.put" = true := by kernel_rfl
theorem B5O (P) : (kf P).lookup 779 = some (fnO "WriteBatch.delete" (vs "raftkeep.keys" 1194) (.none) 778 (A0j 62 2)) := by kernel_rfl
theorem B7a (P) : codeIn (kf P) (.ref 778) "WriteBatch.delete" = true := by kernel_rfl
theorem B2y (P) : (kf P).lookup 786 = some (fnO "WriteBatch.take_op" (vs "raftkeep.keys" 1194) (.none) 785 (A0j 62 3)) := by kernel_rfl
theorem B2Y (P) : codeIn (kf P) (.ref 785) "WriteBatch.take_op" = true := by kernel_rfl
theorem B5N (P) : (kf P).lookup 800 = some (fnO "WriteBatch.count" (vs "raftkeep.keys" 1194) (.none) 799 (A0j 62 5)) := by kernel_rfl
theorem B6Z (P) : codeIn (kf P) (.ref 799) "WriteBatch.count" = true := by kernel_rfl
theorem B5M (P) : (kf P).lookup 821 = some (fnO "WriteBatch.ops" (vs "raftkeep.keys" 1194) (.none) 820 (A0j 62 8)) := by kernel_rfl
theorem B6Y (P) : codeIn (kf P) (.ref 820) "WriteBatch.ops" = true := by kernel_rfl
theorem B5L (P) : (kf P).lookup 856 = some (fnO "Command.__init__" (vs "raftkeep.commands" 1319) (.none) 855 (A0j 80 0)) := by kernel_rfl
theorem B6X (P) : codeIn (kf P) (.ref 855) "Command.__init__" = true := by kernel_rfl
theorem B2x (P) : (kf P).lookup 870 = some (fnO "Command.encode" (vs "raftkeep.commands" 1319) (.none) 869 (A0j 80 2)) := by kernel_rfl
theorem B2X (P) : codeIn (kf P) (.ref 869) "Command.encode" = true := by kernel_rfl
theorem B2w (P) : (kf P).lookup 884 = some (fnO "put_maybe" (vs "raftkeep.commands" 1319) (.none) 883 (A0T 81)) := by kernel_rfl
theorem B2W (P) : codeIn (kf P) (.ref 883) "put_maybe" = true := by kernel_rfl
theorem B2v (P) : (kf P).lookup 891 = some (fnO "take_maybe" (vs "raftkeep.commands" 1319) (.none) 890 (A0T 82)) := by kernel_rfl
theorem B2V (P) : codeIn (kf P) (.ref 890) "take_maybe" = true := by kernel_rfl
theorem B0b (P) : (kf P).lookup 898 = some (fnO "decode_command" (vs "raftkeep.commands" 1319) (.none) 897 (A0T 83)) := by kernel_rfl
theorem B0D (P) : codeIn (kf P) (.ref 897) "decode_command" = true := by kernel_rfl
theorem B2u (P) : (kf P).lookup 905 = some (fnO "make_reply" (vs "raftkeep.commands" 1319) (.none) 904 (A0T 84)) := by kernel_rfl
theorem B2U (P) : codeIn (kf P) (.ref 904) "make_reply" = true := by kernel_rfl
theorem B5K (P) : (kf P).lookup 912 = some (fnO "data_key" (vs "raftkeep.commands" 1319) (.none) 911 (A0T 85)) := by kernel_rfl
theorem B6W (P) : codeIn (kf P) (.ref 911) "data_key" = true := by kernel_rfl
theorem B5J (P) : (kf P).lookup 919 = some (fnO "session_key" (vs "raftkeep.commands" 1319) (.none) 918 (A0T 86)) := by kernel_rfl
theorem B6V (P) : codeIn (kf P) (.ref 918) "session_key" = true := by kernel_rfl
theorem B5I (P) : (kf P).lookup 926 = some (fnO "client_of" (vs "raftkeep.commands" 1319) (.none) 925 (A0T 87)) := by kernel_rfl
theorem B6U (P) : codeIn (kf P) (.ref 925) "client_of" = true := by kernel_rfl
theorem B5H (P) : (kf P).lookup 933 = some (fnO "encode_session" (vs "raftkeep.commands" 1319) (.none) 932 (A0T 88)) := by kernel_rfl
theorem B6T (P) : codeIn (kf P) (.ref 932) "encode_session" = true := by kernel_rfl
theorem B5G (P) : (kf P).lookup 940 = some (fnO "decode_session" (vs "raftkeep.commands" 1319) (.none) 939 (A0T 89)) := by kernel_rfl
theorem B6S (P) : codeIn (kf P) (.ref 939) "decode_session" = true := by kernel_rfl
theorem B5F (P) : (kf P).lookup 954 = some (fnO "Machine.__init__" (vs "raftkeep.commands" 1319) (.none) 953 (A0j 90 0)) := by kernel_rfl
theorem B6R (P) : codeIn (kf P) (.ref 953) "Machine.__init__" = true := by kernel_rfl
theorem B5E (P) : (kf P).lookup 975 = some (fnO "Machine.put_applied" (vs "raftkeep.commands" 1319) (.none) 974 (A0j 90 3)) := by kernel_rfl
theorem B6Q (P) : codeIn (kf P) (.ref 974) "Machine.put_applied" = true := by kernel_rfl
theorem B5D (P) : (kf P).lookup 989 = some (fnO "Machine.apply" (vs "raftkeep.commands" 1319) (.none) 988 (A0j 90 5)) := by kernel_rfl
theorem B6P (P) : codeIn (kf P) (.ref 988) "Machine.apply" = true := by kernel_rfl
theorem B0a (P) : (kf P).lookup 996 = some (fnO "Machine.command_of" (vs "raftkeep.commands" 1319) (.none) 995 (A0j 90 6)) := by kernel_rfl
theorem B0C (P) : codeIn (kf P) (.ref 995) "Machine.command_of" = true := by kernel_rfl
theorem A6L (P) : (kf P).lookup 1003 = some (fnO "Machine.do_command" (vs "raftkeep.commands" 1319) (.none) 1002 (A0j 90 7)) := by kernel_rfl
theorem A7a (P) : codeIn (kf P) (.ref 1002) "Machine.do_command" = true := by kernel_rfl
theorem A2K (P) : (kf P).lookup 1010 = some (fnO "Machine.do_effect" (vs "raftkeep.commands" 1319) (.none) 1009 (A0j 90 8)) := by kernel_rfl
theorem A2O (P) : codeIn (kf P) (.ref 1009) "Machine.do_effect" = true := by kernel_rfl
theorem B0g (P) : (kf P).lookup 1017 = some (fnO "Machine.get" (vs "raftkeep.commands" 1319) (.none) 1016 (A0j 90 9)) := by kernel_rfl
theorem B0I (P) : codeIn (kf P) (.ref 1016) "Machine.get" = true := by kernel_rfl
theorem B0f (P) : (kf P).lookup 1024 = some (fnO "Machine.session_row" (vs "raftkeep.commands" 1319) (.none) 1023 (A0j 90 10)) := by kernel_rfl
theorem B0H (P) : codeIn (kf P) (.ref 1023) "Machine.session_row" = true := by kernel_rfl
theorem B0e (P) : (kf P).lookup 1038 = some (fnO "Machine.rows" (vs "raftkeep.commands" 1319) (.none) 1037 (A0j 90 12)) := by kernel_rfl
theorem B0G (P) : codeIn (kf P) (.ref 1037) "Machine.rows" = true := by kernel_rfl
theorem B3Y (P) : (kf P).lookup 1045 = some (fnO "Machine.sessions" (vs "raftkeep.commands" 1319) (.none) 1044 (A0j 90 13)) := by kernel_rfl
theorem B4v (P) : codeIn (kf P) (.ref 1044) "Machine.sessions" = true := by kernel_rfl
theorem B0d (P) : (kf P).lookup 1052 = some (fnO "Machine.row" (vs "raftkeep.commands" 1319) (.none) 1051 (A0j 90 14)) := by kernel_rfl
theorem B0F (P) : codeIn (kf P) (.ref 1051) "Machine.row" = true := by kernel_rfl
theorem A6K (P) : (kf P).lookup 1066 = some (fnO "same_maybe" (vs "raftkeep.commands" 1319) (.none) 1065 (A0T 91)) := by kernel_rfl
theorem A6Z (P) : codeIn (kf P) (.ref 1065) "same_maybe" = true := by kernel_rfl
theorem B3X (P) : (kf P).lookup 1080 = some (fnO "MemStore.__init__" (vs "raftkeep.commands" 1319) (.none) 1079 (A0j 92 0)) := by kernel_rfl
theorem B4u (P) : codeIn (kf P) (.ref 1079) "MemStore.__init__" = true := by kernel_rfl
theorem B3W (P) : (kf P).lookup 1087 = some (fnO "MemStore.write" (vs "raftkeep.commands" 1319) (.none) 1086 (A0j 92 1)) := by kernel_rfl
theorem B4t (P) : codeIn (kf P) (.ref 1086) "MemStore.write" = true := by kernel_rfl
theorem B3V (P) : (kf P).lookup 1094 = some (fnO "MemStore.take" (vs "raftkeep.commands" 1319) (.none) 1093 (A0j 92 2)) := by kernel_rfl
theorem B4s (P) : codeIn (kf P) (.ref 1093) "MemStore.take" = true := by kernel_rfl
theorem B3U (P) : (kf P).lookup 1115 = some (fnO "MemStore.get" (vs "raftkeep.commands" 1319) (.none) 1114 (A0j 92 5)) := by kernel_rfl
theorem B4r (P) : codeIn (kf P) (.ref 1114) "MemStore.get" = true := by kernel_rfl
theorem B3T (P) : (kf P).lookup 1122 = some (fnO "MemStore.scan" (vs "raftkeep.commands" 1319) (.none) 1121 (A0j 92 6)) := by kernel_rfl
theorem B4q (P) : codeIn (kf P) (.ref 1121) "MemStore.scan" = true := by kernel_rfl
theorem B3S (P) : (kf P).lookup 1143 = some (fnO "_law_kinds" (vs "law_nz0379_01" 1766) (.none) 1142 (A0T 94)) := by kernel_rfl
theorem B4p (P) : codeIn (kf P) (.ref 1142) "_law_kinds" = true := by kernel_rfl
theorem B3R (P) : (kf P).lookup 1150 = some (fnO "_law_draw" (vs "law_nz0379_01" 1766) (.none) 1149 (A0T 95)) := by kernel_rfl
theorem B4o (P) : codeIn (kf P) (.ref 1149) "_law_draw" = true := by kernel_rfl
theorem B0c (P) : (kf P).lookup 1157 = some (fnO "_law_maybe" (vs "law_nz0379_01" 1766) (.none) 1156 (A0T 96)) := by kernel_rfl
theorem B0E (P) : codeIn (kf P) (.ref 1156) "_law_maybe" = true := by kernel_rfl
theorem B3Q (P) : (kf P).lookup 1164 = some (fnO "_law_send" (vs "law_nz0379_01" 1766) (.none) 1163 (A0T 97)) := by kernel_rfl
theorem B4n (P) : codeIn (kf P) (.ref 1163) "_law_send" = true := by kernel_rfl
theorem A5L (P) : (kf P).lookup 1171 = some (fnO "_law_hand" (vs "law_nz0379_01" 1766) (.none) 1170 (A0T 98)) := by kernel_rfl
theorem A5V (P) : codeIn (kf P) (.ref 1170) "_law_hand" = true := by kernel_rfl
end
end Mine
namespace Mine
section
variable {Γ : Cx} {vs : A0e} {led : Led} {h : Heap} {tk : Nat} {Q : Value → A0e → Led → Prop} {QB : Bool → A0e → Led → Prop}
section
variable {env : Env} {f : Addr} {id : String} {pos : Pos} {s : Value} {e : Expr} {rest : List Expr}
theorem cN (k : A0B f) (H : Run Γ vs led (spliced (backTo pos (starEach (e :: rest) env))) fun as vs led => Run Γ vs led (call (.ref f) as) Q)
  (he : starEach (e :: rest) env = (false, eval e env) :: starEach rest env) (hp : (backTo pos (starEach rest env)).any (·.1) = false) : Run Γ vs led (callWith pos (.ref f) [] (backTo pos (starEach (e :: rest) env)) []) Q := A4j k H he hp
theorem cM (k : A0B f) (H : Run Γ vs led (spliced (backTo pos (starEach (e :: rest) env))) fun as vs led => Run Γ vs led (call (.ref f) (s :: as)) Q)
  (he : starEach (e :: rest) env = (false, eval e env) :: starEach rest env) (hp : (backTo pos (starEach rest env)).any (·.1) = false) : Run Γ vs led (callWith pos (.ref f) [s] (backTo pos (starEach (e :: rest) env)) []) Q := A4j k H he hp
theorem cBN (H : Run Γ vs led (spliced (backTo pos (starEach (e :: rest) env))) fun as vs led => Run Γ vs led (call (.builtin id) as) Q)
  (he : starEach (e :: rest) env = (false, eval e env) :: starEach rest env) (hp : (backTo pos (starEach rest env)).any (·.1) = false) : Run Γ vs led (callWith pos (.builtin id) [] (backTo pos (starEach (e :: rest) env)) []) Q := A7f H he hp
theorem cBM (H : Run Γ vs led (spliced (backTo pos (starEach (e :: rest) env))) fun as vs led => Run Γ vs led (call (.builtin id) (s :: as)) Q)
  (he : starEach (e :: rest) env = (false, eval e env) :: starEach rest env) (hp : (backTo pos (starEach rest env)).any (·.1) = false) : Run Γ vs led (callWith pos (.builtin id) [s] (backTo pos (starEach (e :: rest) env)) []) Q := A7f H he hp
end
theorem A8v {a b : Int} {t u : Tok} (q : ∀ t, Q (.int (a + b) t) vs led) : Run Γ vs led (binaryOp .Add (.int a t) (.int b u)) Q := Run.leaf fun h tk S => add_int (Post.mk (tk := tk + 1) S (q tk))
theorem C0g {a b : Int} {t u : Tok} (q : ∀ t, Q (.int (a - b) t) vs led) : Run Γ vs led (binaryOp .Sub (.int a t) (.int b u)) Q := Run.leaf fun h tk S => sub_int (Post.mk (tk := tk + 1) S (q tk))
theorem A4P {a b : Int} {t u : Tok} (q : ∀ t, Q (.int (a + b) t) vs led) : Run Γ vs led (inplaceOp .Add (.int a t) (.int b u)) Q := Run.leaf fun h tk S => iadd_int (Post.mk (tk := tk + 1) S (q tk))
theorem c_lt {a b : Int} {t u : Tok} (q : Q (.bool (decide (a < b))) vs led) : Run Γ vs led (compareOp .Lt (.int a t) (.int b u)) Q := Run.leaf fun h tk S => lt_int (Post.mk S q)
theorem c_gt {a b : Int} {t u : Tok} (q : Q (.bool (decide (b < a))) vs led) : Run Γ vs led (compareOp .Gt (.int a t) (.int b u)) Q := Run.leaf fun h tk S => gt_int (Post.mk S q)
theorem c_le {a b : Int} {t u : Tok} (q : Q (.bool (decide (a ≤ b))) vs led) : Run Γ vs led (compareOp .LtE (.int a t) (.int b u)) Q := Run.leaf fun h tk S => le_int (Post.mk S q)
theorem c_ge {a b : Int} {t u : Tok} (q : Q (.bool (decide (b ≤ a))) vs led) : Run Γ vs led (compareOp .GtE (.int a t) (.int b u)) Q := Run.leaf fun h tk S => ge_int (Post.mk S q)
theorem c_eq {a b : Int} {t u : Tok} (q : Q (.bool (decide (a = b))) vs led) : Run Γ vs led (compareOp .Eq (.int a t) (.int b u)) Q := Run.leaf fun h tk S => eq_int (Post.mk S (by show Q (.bool (a == b)) vs led; rwa [show (a == b) = decide (a = b) from rfl]))
theorem c_ne {a b : Int} {t u : Tok} (q : Q (.bool (decide (a ≠ b))) vs led) : Run Γ vs led (compareOp .NotEq (.int a t) (.int b u)) Q := Run.leaf fun h tk S => ne_int (Post.mk S (by
 have : (a != b) = decide (a ≠ b) := by by_cases e : a = b <;> simp [e]
 rwa [this]))
theorem B0Q {b c : Array UInt8} {t u : Tok} (hz : b.size + c.size ≤ 16777216) (q : ∀ t, Q (.bytes (b ++ c) t) vs led) : Run Γ vs led (binaryOp .Add (.bytes b t) (.bytes c u)) Q := Run.leaf fun h tk S => KBy.add_bytes hz fun t' k => Post.mk (tk := k) S (q t')
theorem B7E {b c : Array UInt8} {t u : Tok} (q : Q (.bool (decide (b = c))) vs led) : Run Γ vs led (compareOp .Eq (.bytes b t) (.bytes c u)) Q := Run.leaf fun h tk S => eq_bytes (Post.mk S (by
 have : (b.toList == c.toList) = decide (b = c) := by
  by_cases e : b = c
  ·simp [e]
  ·simp [e, Array.toList_inj]
 rwa [this]))
theorem B9H {b c : Array UInt8} {t u : Tok} (q : Q (.bool (decide (b ≠ c))) vs led) : Run Γ vs led (compareOp .NotEq (.bytes b t) (.bytes c u)) Q := Run.leaf fun h tk S => ne_bytes (Post.mk S (by
 have : (b.toList != c.toList) = decide (b ≠ c) := by
  by_cases e : b = c
  ·simp [e]
  ·simp [e, Array.toList_inj]
 rwa [this]))
theorem A9q {b : Array UInt8} {t : Tok} (hz : b.size ≤ 1099511627776) (q : ∀ t, Q (.int b.size t) vs led) : Run Γ vs led (call (.builtin "len") [.bytes b t]) Q := Run.leaf fun h tk S => len_bytes hz (Post.mk (tk := tk + 1 + 1) S (q _))
theorem A8j {Q : Value → A0e → Led → Prop} (q : Q (.bool true) vs led) : Run Γ vs led (compareOp .Is .none .none) Q := Run.leaf fun h tk S => is_none_none (Post.mk S q)
theorem B0s {v : Value} (hv : v ≠ .none) (q : Q (.bool false) vs led) : Run Γ vs led (compareOp .Is v .none) Q := Run.leaf fun h tk S => is_none_ne hv (Post.mk S q)
theorem A6v (q : Q (.bool false) vs led) : Run Γ vs led (compareOp .IsNot .none .none) Q := Run.leaf fun h tk S => isnot_none_none (Post.mk S q)
theorem A8S {v : Value} (hv : v ≠ .none) (q : Q (.bool true) vs led) : Run Γ vs led (compareOp .IsNot v .none) Q := Run.leaf fun h tk S => isnot_none_ne hv (Post.mk S q)
theorem St.isList {l : Addr} {xs : List Value} (S : St Γ h vs led) (hm : (l, LObj.list xs) ∈ led) : h.IsList l xs.toArray := by
 obtain ⟨o, ho, ⟨n, rfl⟩, _⟩ := S.get hm
 exact ⟨_, ho, rfl, n, rfl⟩
theorem St.isTup {l : Addr} {xs : List Value} (S : St Γ h vs led) (hm : (l, LObj.tup xs) ∈ led) : IsTup h l xs.toArray := by
 obtain ⟨o, ho, ⟨n, rfl⟩, _⟩ := S.get hm
 exact ⟨_, ho, rfl, n, rfl⟩
theorem B9m {l : Addr} {xs : List Value} (hm : (l, LObj.list xs) ∈ led) (hz : xs.length ≤ 1000000) (q : ∀ t, Q (.int xs.length t) vs led) : Run Γ vs led (call (.builtin "len") [.ref l]) Q := Run.leaf fun h tk S =>
 len_list (S.isList hm) (by rw [List.size_toArray]; omega) (by rw [List.size_toArray]; exact Post.mk (tk := tk + 1 + 1) S (q _))
theorem A6p {l : Addr} {xs : List Value} (hm : (l, LObj.list xs) ∈ led) (hz : xs.length ≤ 1000000) (q : QB (decide (xs ≠ [])) vs led) : Run Γ vs led (truthy (.ref l)) QB := Run.leaf fun h tk S =>
 wpAny_truthy_list (S.isList hm) (by rw [List.size_toArray]; omega) (by
  have : (!xs.toArray.isEmpty) = decide (xs ≠ []) := by cases xs <;> simp
  rw [this]; exact Post.mk (tk := tk + 1 + 1) S q)
theorem St.noDict {l : Addr} {xs : List Value} (S : St Γ h vs led) (hm : (l, LObj.list xs) ∈ led) : ∃ o, h.get? l = some o ∧ o.dict = none := by
 obtain ⟨o, ho, ⟨n, rfl⟩, _⟩ := S.get hm
 exact ⟨_, ho, rfl⟩
theorem A8J {name : Str} {id : String} {pl : Sem Bool} {Q : Value × List Value → A0e → Led → Prop} {l : Addr} {xs : List Value} (slot : Slot "list" name id) (hty : typeOf (.builtin id) = pure (.type "method_descriptor")) (hm : (l, LObj.list xs) ∈ led)
  (q : Q (.builtin id, [.ref l]) vs led) : Run Γ vs led (getMethod (.ref l) name pl) Q := Run.leaf fun h tk S =>
 getMethod_builtin (S.isList hm).typeIs PySem.F.plainAttrs_list slot hty (fun a e => by cases e; exact S.noDict hm) (Post.mk S q)
theorem B1D {pl : Sem Bool} {Q : Value × List Value → A0e → Led → Prop} {l : Addr} {xs : List Value} (hm : (l, LObj.list xs) ∈ led) (q : Q (.builtin "list.append", [.ref l]) vs led) : Run Γ vs led (getMethod (.ref l) "append" pl) Q :=
 A8J PySem.F.slot_list_append PySem.F.type_list_append hm q
theorem B1C {pl : Sem Bool} {Q : Value × List Value → A0e → Led → Prop} {l : Addr} {xs : List Value} (hm : (l, LObj.list xs) ∈ led) (q : Q (.builtin "list.insert", [.ref l]) vs led) : Run Γ vs led (getMethod (.ref l) "insert" pl) Q :=
 A8J PySem.F.slot_list_insert PySem.F.type_list_insert hm q
theorem B9l {pl : Sem Bool} {Q : Value × List Value → A0e → Led → Prop} {l : Addr} {xs : List Value} (hm : (l, LObj.list xs) ∈ led) (q : Q (.builtin "list.pop", [.ref l]) vs led) : Run Γ vs led (getMethod (.ref l) "pop" pl) Q :=
 A8J PySem.F.slot_list_pop PySem.F.type_list_pop hm q
theorem B3P {pl : Sem Bool} {Q : Value × List Value → A0e → Led → Prop} {l : Addr} {xs : List Value} (hm : (l, LObj.list xs) ∈ led) (q : Q (.builtin "list.index", [.ref l]) vs led) : Run Γ vs led (getMethod (.ref l) "index" pl) Q :=
 A8J PySem.F.slot_list_index PySem.F.type_list_index hm q
theorem A0y {l : Addr} {xs : List Value} {led' : Led} {v : Value} (U : Upd1 l (.list xs) (.list (xs ++ [v])) led led') (hz : xs.length ≤ 1000000) (q : Q .none vs led') : Run Γ vs led (call (.builtin "list.append") [.ref l, v]) Q := Run.leaf fun h tk S => by
 obtain ⟨o, ho, ⟨n, rfl⟩, _⟩ := S.get U.mem
 refine append_at ho (fun h' hs ho' => Post.mk (S.upd U hs ho' ⟨n + 1, by rw [List.push_toArray]⟩) q) ?_
 rw [List.size_toArray, sizeLine_eq]; omega
end
end Mine
namespace Mine
inductive Sub : Led → Led → Prop
 | nil {b} : Sub [] b
 | refl {a} : Sub a a
 | cons {a lo as b b'} : Ex a lo b b' → Sub as b' → Sub ((a, lo) :: as) b
 | skip {a p b} : Sub a b → Sub a (p :: b)
theorem Sub.perm {a b : Led} (s : Sub a b) : ∃ g, b.Perm (a ++ g) := by
 induction s with
 | @nil b => exact ⟨b, .refl _⟩
 | refl => exact ⟨[], by simp⟩
 | cons e _ ih => obtain ⟨g, p⟩ := ih; exact ⟨g, e.perm.trans (p.cons _)⟩
 | @skip a p b _ ih => obtain ⟨g, q⟩ := ih; exact ⟨p :: g, (q.cons p).trans List.perm_middle.symm⟩
section
variable {Γ : Cx} {vs : A0e} {led led' : Led} {h h' : Heap} {tk : Nat} {α : Type}
theorem St.dropEnd {l : Led} (S : St Γ h vs (led ++ l)) : St Γ h vs led := St.dropAll (l := l) (S.perm List.perm_append_comm)
theorem St.sub (S : St Γ h vs led) (s : Sub led' led) : St Γ h vs led' := by
 obtain ⟨g, p⟩ := s.perm
 exact (S.perm p).dropEnd
theorem Run.sub {t : Sem α} {Q : α → A0e → Led → Prop} (s : Sub led' led) (H : Run Γ vs led' t Q) : Run Γ vs led t Q := fun h tk S => H h tk (S.sub s)
theorem St.ext {it : Addr} {lo : LObj} (S : St Γ h vs ((it, lo) :: led)) (e : Heap.ExtBut it h h') : St Γ h' vs led := by
 obtain ⟨news, R, N⟩ := S.N
 obtain ⟨q, n', rfl, R'⟩ := R.drop
 have hq : q.1 = it := by
  have := R.keys
  simp only [List.map_cons, List.cons.injEq] at this
  exact this.1
 have hz := N q (.head _)
 have nd := S.nd
 rw [List.map_cons, List.nodup_cons] at nd
 have hk : ∀ b o, Γ.h₀.get? b = some o → h'.get? b = some o := fun b o ho => e b o (fun x => by rw [x, ← hq, hz.2.2] at ho; cases ho) (S.F.keep b o ho)
 refine { B := S.B, F := ⟨?_, hk, S.F.above⟩, X := S.X, T := S.T, hk := S.hk, N := ⟨n', R', fun p hp => ?_⟩, nd := nd.2, nv := S.nv, hl := S.hl, hg := S.hg }
 ·obtain ⟨oL, a1, a2, hL, a3⟩ := S.F.ns
  exact ⟨oL, a1, a2, e _ _ (fun x => hz.2.1 (by rw [hq, ← x])) hL, a3⟩
 ·have z := N p (.tail _ hp)
  refine ⟨e _ _ (fun x => ?_) z.1, z.2⟩
  apply nd.1
  have := R'.keys
  show it ∈ led.map (·.1)
  rw [← this, ← x]
  exact List.mem_map_of_mem hp
structure Walk (Γ : Cx) (pre : Led → Prop) (st : Nat → LObj) (n : Nat) (val : Nat → Value → Prop) : Prop where
 next : ∀ i, i < n → ∀ vs led it, pre led → ∀ (Q : Option Value → A0e → Led → Prop), (∀ v, val i v → Q (some v) vs ((it, st (i + 1)) :: led)) → Run Γ vs ((it, st i) :: led) (pyNext (.ref it)) Q
 self : ∀ i vs led it, pre led → ∀ (Q : Value → A0e → Led → Prop), Q (.ref it) vs ((it, st i) :: led) → Run Γ vs ((it, st i) :: led) (pyIter (.ref it)) Q
 more : ∀ led p, pre led → pre (p :: led)
 stop : ∀ vs led it, pre led → ∀ (Q : Option Value → A0e → Led → Prop), Q none vs led → Run Γ vs ((it, st n) :: led) (pyNext (.ref it)) Q
noncomputable def itL (l : Addr) (i : Nat) : LObj := .fob "list_iterator" #[.ref l, .int i 0]
theorem A2E (Γ : Cx) (l : Addr) (xs : List Value) : Walk Γ (fun led => (l, LObj.list xs) ∈ led) (itL l) xs.length (fun i v => xs[i]? = some v) := by
 refine ⟨fun i hi vs led it hm Q q => Run.leaf fun h tk S => ?_, fun i vs led it hm Q q => Run.leaf fun h tk S => ?_, fun led p hm => .tail _ hm, fun vs led it hm Q q => Run.leaf fun h tk S => ?_⟩
 ·obtain ⟨o, ho, ho', _⟩ := S.get (a := it) (lo := itL l i) (.head _)
  have hx : xs.toArray[i]? = some xs[i] := by simp [hi]
  refine wpAny_pyNext_list_item (s := Γ.at h tk) (i := i) ⟨_, ho, ho'.1, ho'.2⟩ (S.isList (.tail _ hm)) hx fun h' hit hs => ?_
  obtain ⟨o', ho', hc, hd⟩ := hit
  have U : Upd1 it (itL l i) (itL l (i + 1)) ((it, itL l i) :: led) ((it, itL l (i + 1)) :: led) := .head
  exact Post.mk (tk := tk) (S.upd U hs ho' ⟨hc, hd⟩) (q xs[i] (by simp [hi]))
 ·obtain ⟨o, ho, ho', _⟩ := S.get (a := it) (lo := itL l i) (.head _)
  exact wpAny_pyIter_listiter (s := Γ.at h tk) (i := i) ⟨_, ho, ho'.1, ho'.2⟩ (Post.mk S q)
 ·obtain ⟨o, ho, ho', _⟩ := S.get (a := it) (lo := itL l xs.length) (.head _)
  exact wpAny_pyNext_list_end (s := Γ.at h tk) (i := xs.length) rfl ⟨_, ho, ho'.1, ho'.2⟩ (S.isList (.tail _ hm)) (by simp) fun h' e => Post.mk (tk := tk) (S.ext e) q
variable {k : List (List Stmt)} {rest : List Stmt} {Q : Flow → A0e → Led → Prop}
theorem B0U {target iter : Expr} {body : List Stmt} {pos : Pos}
  (H : Run Γ vs led (eval iter Γ.env) fun x vs led => ∃ (pre : Led → Prop) (st : Nat → LObj) (n : Nat) (val : Nat → Value → Prop), Walk Γ pre st n val ∧
   Run Γ vs led (pyIter x) fun it vs led => ∃ (a : Addr) (led₀ : Led) (J : Nat → A0e → Led → Prop), it = .ref a ∧ Sub ((a, st 0) :: led₀) led ∧ J 0 vs led₀ ∧ (∀ i vs led, J i vs led → pre led) ∧
    (∀ i v vs led, i < n → val i v → J i vs led → Run Γ vs ((a, st (i + 1)) :: led) (letOwnedTupleGo target (.ref a) v) fun _ vs led => Run Γ vs led (assign target Γ.env v) fun _ vs led => Do Γ vs led [body] fun f vs led => match f with
     | .next | .cont => ∃ led₁, Sub ((a, st (i + 1)) :: led₁) led ∧ J (i + 1) vs led₁
     | .brk => Do Γ vs led (rest :: k) Q
     | .ret v => Q (.ret v) vs led) ∧
    (∀ vs led, J n vs led → Do Γ vs led (rest :: k) Q))
  (hs : ∀ x, foldedSetIterable iter Γ.env x = pure x) : Do Γ vs led ((.For target iter body [] pos :: rest) :: k) Q := by
 refine A5Z ?_
 rw [exec_For]
 refine Run.stand (Run.thn H fun x vs₁ led₁ zz => ?_)
 obtain ⟨pre, st, n, val, W, H₁⟩ := zz
 refine Run.eqb (hs x) (Run.stand (Run.thn (Run.hold H₁) fun it vs₂ led₂ zz => ?_))
 obtain ⟨a, led₀, J, e, sb, j0, hpre, turn, done⟩ := zz
 subst e
 unfold runOwn
 refine Run.onR fun h₂ tk₂ S₂ => A9L ?_
 have S₃ := S₂.sub sb
 refine A9x rfl rfl (fun m s => ∃ i h tk vs led, m = n - i ∧ i ≤ n ∧ s = Γ.at h tk ∧ St Γ h vs ((a, st i) :: led) ∧ J i vs led) (fun m s zz => ?_) n ⟨0, h₂, tk₂, vs₂, led₀, rfl, Nat.zero_le _, rfl, S₃, j0⟩
 obtain ⟨i, h, tk, vs, led, hm, hi, hs, S, j⟩ := zz
 subst hs
 show wpM Γ.nd Γ.M Γ.A ((forTurn target (.ref a) body [] Γ.env).onRaise (fun x => do noteFrame x Γ.env; theTreesLotGoes x)) _ _ _
 refine A2Y ?_
 simp only [forTurn]
 refine A0f (A0v (wpAny_standAt (A0f (A2Y ?_))))
 by_cases hin : i < n
 ·refine Run.use (W.next i hin vs led a (hpre i vs led j) (fun r vs' led' => ∃ v, r = some v ∧ val i v ∧ vs' = vs ∧ led' = (a, st (i + 1)) :: led) fun v hv => ⟨v, rfl, hv, rfl, rfl⟩) S fun r h' tk' vs' led' S' q => ?_
  obtain ⟨v, rfl, hv, rfl, rfl⟩ := q
  refine A0f (Run.use (turn i v _ led hin hv j) S' fun _ h₃ tk₃ vs₃ led₃ S₃ H₃ => A0f (Run.use H₃ S₃ fun _ h₄ tk₄ vs₄ led₄ S₄ H₄ => ?_))
  have H₅ : Run Γ vs₄ led₄ (execs body Γ.env) _ := H₄
  refine A0f (Run.use H₅ S₄ fun f h₆ tk₆ vs₆ led₆ S₆ q => ?_)
  cases f with
  | next => obtain ⟨led₇, sb, j'⟩ := q; exact A0v (wpAny_pure (.inl ⟨rfl, n - (i + 1), by omega, i + 1, h₆, tk₆, vs₆, led₇, rfl, hin, rfl, S₆.sub sb, j'⟩))
  | cont => obtain ⟨led₇, sb, j'⟩ := q; exact A0v (wpAny_pure (.inl ⟨rfl, n - (i + 1), by omega, i + 1, h₆, tk₆, vs₆, led₇, rfl, hin, rfl, S₆.sub sb, j'⟩))
  | brk => exact A0v (wpAny_pure (Post.mk S₆ q))
  | ret v => exact A0v (wpAny_pure (Post.mk S₆ q))
 ·obtain rfl : i = n := by omega
  refine Run.use (W.stop vs led a (hpre i vs led j) (fun r vs' led' => r = none ∧ vs' = vs ∧ led' = led) ⟨rfl, rfl, rfl⟩) S fun r h' tk' vs' led' S' q => ?_
  obtain ⟨rfl, rfl, rfl⟩ := q
  exact A0v (wpAny_pure (.inr ⟨rfl, A8U (codeAny_block (wpAny_execs_nil (Post.mk S' (done _ _ j))))⟩))
theorem B2f {target iter : Expr} {body : List Stmt} {pos : Pos}
  (H : Run Γ vs led (eval iter Γ.env) fun x vs led => ∃ (pre : Led → Prop) (st : Nat → LObj) (n : Nat) (val : Nat → Value → Prop), Walk Γ pre st n val ∧
   Run Γ vs led (pyIter x) fun it vs led => ∃ (a : Addr) (led₀ : Led) (J : Nat → A0e → Led → Prop), it = .ref a ∧ Sub ((a, st 0) :: led₀) led ∧ J 0 vs led₀ ∧ (∀ i vs led, J i vs led → pre led) ∧
    (∀ i v vs led, i < n → val i v → J i vs led → Run Γ vs ((a, st (i + 1)) :: led) (assign target Γ.env v) fun _ vs led => Do Γ vs led [body] fun f vs led => match f with
     | .next | .cont => ∃ led₁, Sub ((a, st (i + 1)) :: led₁) led ∧ J (i + 1) vs led₁
     | .brk => Do Γ vs led (rest :: k) Q
     | .ret v => Q (.ret v) vs led) ∧
    (∀ vs led, J n vs led → Do Γ vs led (rest :: k) Q))
  (hs : ∀ x, foldedSetIterable iter Γ.env x = pure x) (ht : ∀ it v, letOwnedTupleGo target it v = pure ()) : Do Γ vs led ((.For target iter body [] pos :: rest) :: k) Q :=
 B0U (H.mono fun _ _ _ H₁ => by
  obtain ⟨pre, st, n, val, W, H₁⟩ := H₁
  refine ⟨pre, st, n, val, W, H₁.mono fun _ _ _ H₂ => ?_⟩
  obtain ⟨a, led₀, J, e, sb, j0, hpre, turn, done⟩ := H₂
  exact ⟨a, led₀, J, e, sb, j0, hpre, fun i v vs led hi hv j => by rw [ht]; exact Run.pure (turn i v vs led hi hv j), done⟩) hs
theorem A3W {l : Addr} {xs : List Value} {Q : Value → A0e → Led → Prop} (hm : (l, LObj.list xs) ∈ led) (q : ∀ a, Q (.ref a) vs ((a, itL l 0) :: led)) : Run Γ vs led (pyIter (.ref l)) Q := Run.leaf fun h tk S =>
 wpAny_pyIter_list (S.isList hm) (Post.mk (tk := tk) (S.alloc (lo := itL l 0) ⟨rfl, rfl⟩ rfl) (q _))
end
end Mine
namespace Mine
section
variable {Γ : Cx} {vs : A0e} {led led' : Led} {h : Heap} {tk : Nat} {Q : Value → A0e → Led → Prop} {QB : Bool → A0e → Led → Prop}
theorem B2R {l : Addr} {xs : List Value} {k : Int} {u : Tok} {x : Value} (hm : (l, LObj.list xs) ∈ led) (h0 : 0 ≤ k) (h1 : k < 2 ^ 63) (hx : xs[k.toNat]? = some x) (q : Q x vs led) : Run Γ vs led (getItem (.ref l) (.int k u)) Q := Run.leaf fun h tk S =>
 wpAny_getItem_list (S.isList hm) h0 h1 (by simpa using hx) (Post.mk S q)
theorem B3I {value slice : Expr} {b : List UInt8} {k : Int} {t u : Tok} (hz : b.length ≤ 1000000) (h0 : 0 ≤ k) (h1 : k < (b.length : Int)) (q : ∀ t, Q (.int ((b.getD k.toNat 0).toNat : Nat) t) vs led)
  (hs : subscripted slice false (.bytes b.toArray t) (.int k u) = operate [.bytes b.toArray t, .int k u] (getItem (.bytes b.toArray t) (.int k u))) (ht : ∀ r, letTemporaryGo value (.bytes b.toArray t) r = pure ()) : Run Γ vs led (subscriptTail value slice (.bytes b.toArray t) (.int k u)) Q := Run.leaf fun h tk S =>
 KBy.item_N (by omega) h0 h1 (Post.mk (tk := tk + 1) S (q _)) hs ht
theorem B8e {a b : Int} {t u : Tok} (hb : b ≠ 0) (q : ∀ t, Q (.int (a.fmod b) t) vs led) : Run Γ vs led (binaryOp .Mod (.int a t) (.int b u)) Q := Run.leaf fun h tk S => mod_int' hb (Post.mk (tk := tk + 1) S (q _))
theorem B8f {a b : Int} {t u : Tok} (hb : b ≠ 0) (hs : b.natAbs < 1073741824) (q : ∀ t, Q (.int (a.fdiv b) t) vs led) : Run Γ vs led (binaryOp .FloorDiv (.int a t) (.int b u)) Q := Run.leaf fun h tk S => floordiv_int hb (Post.mk (tk := tk + 1) S (q _)) (.inl (PyProof.noPylong_small hs))
theorem C0j {a n : Int} {t u : Tok} (hn : 0 ≤ n) (hn2 : n ≤ 1000000) (ha : a.natAbs < 2 ^ 64) (q : ∀ t, Q (.int (a ^ n.toNat) t) vs led) : Run Γ vs led (binaryOp .Pow (.int a t) (.int n u)) Q := Run.leaf fun h tk S => pow_int_small hn hn2 ha (Post.mk (tk := tk + 1) S (q _))
theorem C0l {a b : Int} {t u : Tok} (q : ∀ t, Q (.int (Builtin.bitAnd a b) t) vs led) : Run Γ vs led (binaryOp .BitAnd (.int a t) (.int b u)) Q := Run.leaf fun h tk S => and_int (Post.mk (tk := tk + 1) S (q _))
theorem b_or {a b : Int} {t u : Tok} (q : ∀ t, Q (.int (Builtin.bitOr a b) t) vs led) : Run Γ vs led (binaryOp .BitOr (.int a t) (.int b u)) Q := Run.leaf fun h tk S => or_int (Post.mk (tk := tk + 1) S (q _))
theorem C0h {a n : Int} {t u : Tok} (hn : 0 ≤ n) (q : ∀ t, Q (.int (a.fdiv (2 ^ n.toNat)) t) vs led) : Run Γ vs led (binaryOp .RShift (.int a t) (.int n u)) Q := Run.leaf fun h tk S => rshift_int hn (Post.mk (tk := tk + 1) S (q _))
theorem C0i {a n : Int} {t u : Tok} (hn : 0 ≤ n) (hn2 : n ≤ 1000000) (ha : a.natAbs < 2 ^ 64) (q : ∀ t, Q (.int (a * 2 ^ n.toNat) t) vs led) : Run Γ vs led (binaryOp .LShift (.int a t) (.int n u)) Q := Run.leaf fun h tk S => lshift_int_small hn hn2 ha (Post.mk (tk := tk + 1) S (q _))
theorem C0k {a b : Int} {t u : Tok} (hk : IntMulOk a b) (q : ∀ t, Q (.int (a * b) t) vs led) : Run Γ vs led (binaryOp .Mult (.int a t) (.int b u)) Q := Run.leaf fun h tk S => mul_int (Post.mk (tk := tk + 1) S (q _)) hk
theorem B8w {a : Int} {t : Tok} (q : ∀ t, Q (.int (-a) t) vs led) : Run Γ vs led (unaryOp .USub (.int a t)) Q := Run.leaf fun h tk S => neg_int (Post.mk (tk := tk + 1) S (q _))
theorem St.relist {l : Addr} {xs ys : List Value} {h' : Heap} (S : St Γ h vs led) (U : Upd1 l (.list xs) (.list ys) led led') {n : Nat} (hs : Heap.SameBut l h h') (ho : h'.get? l = some { cls := .type "list", data := .seq ys.toArray n }) : St Γ h' vs led' := S.upd U hs ho ⟨n, rfl⟩
theorem A6x {i : Int} (h0 : 0 ≤ i) (h1 : i ≤ 1000000) : Builtin.List.listFitsIndex i = true := by
 unfold Builtin.List.listFitsIndex
 first | (simp; omega) | (unfold Builtin.fitsIndex; simp; omega)
theorem A6q {h : Heap} {l : Addr} {xs ys : List Value} {n : Nat} {f : Array Value → Array Value} (ho : h.get? l = some { cls := .type "list", data := .seq xs.toArray n }) (e : f xs.toArray = ys.toArray) (hsz : ys.length ≠ xs.length) :
  (h.update l (Obj.mapSeq f)).get? l = some { cls := .type "list", data := .seq ys.toArray (n + 1) } := by
 have z : (h.update l (Obj.mapSeq f)).get? l = some _ := PySem.IsL.update (h := h) (l := l) (items := xs.toArray) (n := n) ho f
 rw [e] at z
 have hs : (ys.toArray.size == xs.toArray.size) = false := by simpa using hsz
 rw [hs] at z
 exact z
theorem B9p {l : Addr} {xs : List Value} {i : Int} {u : Tok} {y : Value} (h0 : 0 ≤ i) (hm : xs[i.toNat]? = some y) (hz : xs.length ≤ 1000000) (U : Upd1 l (.list xs) (.list (xs.eraseIdx i.toNat)) led led') (q : Q y vs led') : Run Γ vs led (call (.builtin "list.pop") [.ref l, .int i u]) Q := Run.leaf fun h tk S => by
 obtain ⟨o, ho, ⟨n, rfl⟩, _⟩ := S.get U.mem
 have hlt := (List.getElem?_eq_some_iff.mp hm).1
 have hk : seqIndex? i xs.toArray.size = some i.toNat := by
  rw [List.size_toArray]
  unfold seqIndex?
  simp only [h0, if_true]
  first | (rw [if_pos]; omega) | (split <;> simp_all <;> omega)
 refine call_meets (s := Γ.at h tk) PySem.F.slot_list_pop ⟨_, ho, rfl⟩ PySem.F.entry_list_pop (PySem.F.args_list_pop_2 _ _) (PySem.MeetsSeq.list_pop_at l _ n i u _ y (A6x h0 (by omega)) hk (by simpa using hm) (by rw [List.size_toArray, sizeLine_eq]; omega)) ⟨ho, Post.mk (S.relist (n := n + 1) U (Heap.SameBut.update ..) (A6q ho (by simp) ?_)) q⟩
 simp only [List.length_eraseIdx, hlt, if_true]
 omega
theorem B0l {l : Addr} {xs : List Value} {u : Tok} {y : Value} (hz : xs.length ≤ 1000000) (U : Upd1 l (.list xs) (.list (y :: xs)) led led') (q : Q .none vs led') : Run Γ vs led (call (.builtin "list.insert") [.ref l, .int 0 u, y]) Q := Run.leaf fun h tk S => by
 obtain ⟨o, ho, ⟨n, rfl⟩, _⟩ := S.get U.mem
 exact call_meets (s := Γ.at h tk) PySem.F.slot_list_insert ⟨_, ho, rfl⟩ PySem.F.entry_list_insert (PySem.F.args_list_insert_3 _ _ _) (PySem.AutoSeq1.list_insert_list_int_val_1 l _ n 0 u y (by simp [A6x]) (by rw [List.size_toArray, sizeLine_eq]; omega)) ⟨ho, Post.mk (tk := tk) (S.relist (n := n + 1) U (Heap.SameBut.update ..) (A6q ho (by simp) (by simp))) q⟩
inductive Pairs (led : Led) : List Value → List (Int × Int) → Prop
 | nil : Pairs led [] []
 | cons {a : Addr} {p q : Int} {t u : Tok} {xs ps} : (a, LObj.tup [.int p t, .int q u]) ∈ led → Pairs led xs ps → Pairs led (.ref a :: xs) ((p, q) :: ps)
theorem Pairs.mono {led led' : Led} {xs : List Value} {ps : List (Int × Int)} (P : Pairs led xs ps) (hs : ∀ a l, (a, LObj.tup l) ∈ led → (a, LObj.tup l) ∈ led') : Pairs led' xs ps := by
 induction P with
 | nil => exact .nil
 | cons hm _ ih => exact .cons (hs _ _ hm) ih
noncomputable def A4y (p : Int × Int) : PyData := .tuple [.int p.1, .int p.2]
theorem St.reads_pair (S : St Γ h vs led) {a : Addr} {p q : Int} {t u : Tok} (hm : (a, LObj.tup [.int p t, .int q u]) ∈ led) : Reads h (.ref a) (A4y (p, q)) [] := by
 obtain ⟨o, ho, ⟨n, rfl⟩, _⟩ := S.get hm
 exact .tuple (as := [] ++ ([] ++ [])) ho rfl rfl (.cons (.int _ _) (.cons (.int _ _) .nil))
theorem St.reads_pairs (S : St Γ h vs led) {xs : List Value} {ps : List (Int × Int)} (P : Pairs led xs ps) : ReadsAll h xs (ps.map A4y) [] := by
 induction P with
 | nil => exact .nil
 | cons hm _ ih => exact .cons (as := []) (bs := []) (S.reads_pair hm) ih
theorem A8F (ps : List (Int × Int)) : PyData.canLayAll0 (ps.map A4y) = true := by
 induction ps with
 | nil => rfl
 | cons p r ih => simp only [List.map_cons, PyData.canLayAll0, ih, Bool.and_true]; rfl
theorem A6t (ps : List (Int × Int)) (d : PyData) (hd : d.depth ≤ 8) : min (PyData.depthAll (ps.map A4y)) d.depth ≤ 8 := Nat.le_trans (Nat.min_le_right _ _) hd
theorem A8G (p q : Int × Int) : PyData.eqv (A4y p) (A4y q) = decide (p = q) := by
 obtain ⟨a, b⟩ := p
 obtain ⟨c, d⟩ := q
 simp only [A4y, PyData.eqv, PyData.eqvAll, Bool.and_true, Prod.mk.injEq, Bool.decide_and]
 rfl
theorem A7L {l a : Addr} {xs : List Value} {ps : List (Int × Int)} {p q : Int} {t u : Tok} (hu : Γ.un ≤ 9000) (hl : (l, LObj.list xs) ∈ led) (P : Pairs led xs ps) (hm : (a, LObj.tup [.int p t, .int q u]) ∈ led) (k : Q (.bool (decide ((p, q) ∈ ps))) vs led) :
  Run Γ vs led (compareOp .In (.ref a) (.ref l)) Q := Run.leaf fun h tk S => by
 obtain ⟨o, ho, ⟨n, rfl⟩, _⟩ := S.get hl
 have hb : ((ps.map A4y).any fun y => PyData.eqv y (A4y (p, q))) = decide ((p, q) ∈ ps) := by
  rw [List.any_map]
  simp only [Function.comp_def, A8G]
  by_cases hp : (p, q) ∈ ps
  ·rw [decide_eq_true hp, List.any_eq_true]; exact ⟨_, hp, by simp⟩
  ·rw [decide_eq_false hp, ← Bool.not_eq_true, List.any_eq_true]
   rintro ⟨x, hx, e⟩
   exact hp (by simpa using (by simpa using e : x = (p, q)) ▸ hx)
 refine SeqAt.in_list_reads (s := Γ.at h tk) (.list ho rfl rfl (S.reads_pairs P)) (S.reads_pair hm) (A8F ps) rfl ?_ (by rw [hb]; exact Post.mk S k)
 have := A6t ps (A4y (p, q)) (by simp [A4y, PyData.depth, PyData.depthAll])
 have hc := cLine_is
 show Γ.un + 1 + _ < cLine
 omega
structure Low (Γ : Cx) (n : Nat) : Prop where
 dp : Γ.dp ≤ 302 + n
 un : Γ.un ≤ 100 + 5 * n
 gd : Γ.gd = some []
theorem Low.room {Γ : Cx} {n : Nat} (l : Low Γ n) (hn : n ≤ 600) : Γ.dp < recursionLimit := Nat.lt_of_le_of_lt l.1 (by simp only [recursionLimit]; omega)
theorem Low.room1 {Γ : Cx} {n : Nat} (l : Low Γ n) (hn : n ≤ 600) : Γ.dp + 1 < recursionLimit := Nat.lt_of_le_of_lt (Nat.succ_le_succ l.1) (by simp only [recursionLimit]; omega)
theorem Low.units {Γ : Cx} {n : Nat} (l : Low Γ n) (hn : n ≤ 600) : Γ.un ≤ 9000 := Nat.le_trans l.2 (by omega)
theorem Low.mono {Γ : Cx} {n m : Nat} (l : Low Γ n) (h : n ≤ m) : Low Γ m := ⟨Nat.le_trans l.1 (by omega), Nat.le_trans l.2 (by omega), l.3⟩
theorem Cx.Under.low {Γ Γ' : Cx} {cs : Scope} {gl : List Str} {n : Nat} (U : Γ.Under Γ.A cs gl Γ') (l : Low Γ n) : Low Γ' (n + 1) := by
 have h1 : Γ'.dp = Γ.dp + 1 := U.dp
 have h2 : Γ'.un = Γ.un + 3 := U.un
 exact ⟨by rw [h1]; have := l.1; omega, by rw [h2]; have := l.2; omega, U.gd.trans l.3⟩
end
end Mine
namespace Mine
section
variable {Γ : Cx} {vs : A0e} {led led' : Led} {h : Heap} {tk : Nat} {Q : Value → A0e → Led → Prop} {QB : Bool → A0e → Led → Prop}
variable {scope : Scope} {cl : List (Str × Addr)} {C : Addr}
theorem St.nsAt {vc : A0e} (S : St Γ h vs led) (hm : (C, LObj.ns vc) ∈ led) : h.Ns C (asc vc) := by
 obtain ⟨o, ho, ⟨es, ep, h1, h2, h3⟩, _⟩ := S.get hm
 exact ⟨o, es, ep, ho, h1, h2, h3⟩
theorem B8r {x : Str} {pos : Pos} {v : Value} {vc : A0e} (hm : (C, LObj.ns vc) ∈ led) (hv : asc vc x = some v) (hk : scope.kind = .function) (hx : scope.names.lookup x = some .local) (hd : (x == ("__debug__" : Str)) = false)
  (q : Q v vs led) : Run Γ vs led (eval (.Name x pos) (compEnvC scope cl C Γ.env)) Q := Run.leaf fun h tk S =>
 wpAny_Name (wpAny_loadName_local (env := compEnvC scope cl C Γ.env) hk (lookup_relabel_local hx) (S.nsAt hm) hv (Post.mk S q)) hd
theorem A3c {env : Env} (hf : env.scope.kind = .function) : ∀ {names : List (Str × NameKind)} {x : Str}, names.lookup x = some .free → env.kindOf x = some .cell →
  (names.map fun (n, k) => if (k == NameKind.free && env.scope.kind == .function && env.kindOf n == some .cell) then (n, NameKind.cell) else (n, k)).lookup x = some .cell
 | [], _, h, _ => by simp at h
 | (n, k) :: r, x, h, hc => by
  show List.lookup x ((if (k == NameKind.free && env.scope.kind == .function && env.kindOf n == some .cell) = true then (n, NameKind.cell) else (n, k)) :: _) = _
  cases hx : x == n with
  | true =>
   simp only [List.lookup_cons, hx] at h
   cases h
   have e : x = n := by simpa using hx
   subst e
   simp [hf, hc, List.lookup_cons]
  | false =>
   simp only [List.lookup_cons, hx] at h
   have ih := A3c hf h hc
   by_cases hq : (k == NameKind.free && env.scope.kind == .function && env.kindOf n == some .cell) = true
   ·rw [if_pos hq]; simp only [List.lookup_cons, hx]; exact ih
   ·rw [if_neg hq]; simp only [List.lookup_cons, hx]; exact ih
theorem B3E {x : Str} {pos : Pos} {v : Value} {c : Addr} (hm : (c, LObj.cell (some v)) ∈ led) (hc : cl.lookup x = some c) (hk : scope.kind = .function) (hx : scope.names.lookup x = some .free) (hΓ : Γ.cs.names.lookup x = some .cell) (hd : (x == ("__debug__" : Str)) = false)
  (q : Q v vs led) : Run Γ vs led (eval (.Name x pos) (compEnvC scope cl C Γ.env)) Q := Run.leaf fun h tk S => by
 obtain ⟨o, ho, ho', _⟩ := S.get hm
 exact wpAny_Name (wpAny_loadName_cell (env := compEnvC scope cl C Γ.env) hk (A3c S.hk hx hΓ) hc ⟨o, ho, ho'⟩ (Post.mk S q)) hd
noncomputable abbrev A4B (ifs : List Expr) (env : Env) : Sem Bool := forIn ifs true fun c r => if r = true then do let ok ← isTrue c env (eval c env); pure (ForInStep.yield ok) else pure (ForInStep.yield r)
theorem A4W {env : Env} (q : QB true vs led) : Run Γ vs led (A4B [] env) QB := Run.leaf fun h tk S => wpAny_pure (Post.mk S q)
theorem B1l {env : Env} {c : Expr} (H : Run Γ vs led (isTrue c env (eval c env)) QB) : Run Γ vs led (A4B [c] env) QB := by
 unfold A4B
 rw [List.forIn_cons, if_pos rfl]
 refine Run.bind (Run.thn H fun b vs led q => Run.pure ?_)
 show Run Γ vs led (forIn [] b _) QB
 rw [List.forIn_nil]
 exact Run.pure q
noncomputable def B1O (sc : Scope) (x : Str) : Bool := sc.names.all (fun y => decide (y.2 ≠ .cell)) && decide (sc.kind = .function) && sc.names.all (fun y => decide (y.2 = .local → sc.names.lookup y.1 = some .local)) && decide (sc.names.lookup x = some .local)
theorem B4P {x : Str} {v : Value} {o : Option Value} : (fun y => if y = x then some v else asc [(x, o)] y) = asc [(x, some v)] := by
 funext y
 rw [A2W, A2W]
 split <;> rfl
theorem B0R : asc [(x, none)] = asc [] := by
 funext y
 rw [A2W]
 split <;> rfl
inductive CompI (Γ : Cx) (scope : Scope) (cl : List (Str × Addr)) (elt : Expr) (x : Str) (ifs : List Expr) (Fin : A0e → Led → Addr → Prop) (it : Value) (vs : A0e) (led : Led) : Prop
 | mk (pre : Led → Prop) (st : Nat → LObj) (n : Nat) (val : Nat → Value → Prop) (W : Walk Γ.off pre st n val) (hn : n ≤ 1000000) (a : Addr) (led₀ : Led) (J : Nat → List Value → Led → Prop) (e : it = .ref a) (sb : Sub ((a, st 0) :: led₀) led) (j0 : J 0 [] led₀) (hpre : ∀ i ys led, J i ys led → pre led)
  (turn : ∀ i v ys led C D, i < n → val i v → J i ys led → ys.length ≤ i →
     Run Γ.off vs ((a, st (i + 1)) :: (C, .ns [(x, some v)]) :: (D, .list ys) :: led) (A4B ifs (compEnvC scope cl C Γ.env)) fun b vs' led' =>
      (b = true → Run Γ.off vs' led' (eval elt (compEnvC scope cl C Γ.env)) fun y vs'' led'' => vs'' = vs ∧ ∃ led₁, Sub ((a, st (i + 1)) :: (C, .ns [(x, some v)]) :: (D, .list ys) :: led₁) led'' ∧ J (i + 1) (ys ++ [y]) led₁) ∧
      (b = false → vs' = vs ∧ ∃ led₁, Sub ((a, st (i + 1)) :: (C, .ns [(x, some v)]) :: (D, .list ys) :: led₁) led' ∧ J (i + 1) ys led₁))
  (done : ∀ ys led D, J n ys led → ys.length ≤ n → Fin vs ((D, .list ys) :: led) D)
inductive LoopI (Γ : Cx) (vs : A0e) (x : Str) (st : Nat → LObj) (n : Nat) (a C D : Addr) (J : Nat → List Value → Led → Prop) (m : Nat) : Shared → Prop
 | mk (i : Nat) (h : Heap) (tk : Nat) (led : Led) (ys : List Value) (o : Option Value) (hm : m = n - i) (hi : i ≤ n) (S : St Γ h vs ((a, st i) :: (C, .ns [(x, o)]) :: (D, .list ys) :: led)) (j : J i ys led) (hy : ys.length ≤ i) : LoopI Γ vs x st n a C D J m (Γ.at h tk)
theorem A7K {elt iter : Expr} {x : Str} {px pos pos0 : Pos} {ifs : List Expr} {Fin : A0e → Led → Addr → Prop} {use : Option (Value → Sem Unit)} {PQ : Value → Shared → Prop}
  (hfin : ∀ vs led D C ys o h tk, Fin vs ((D, .list ys) :: led) D → St Γ h vs ((C, .ns [(x, o)]) :: (D, .list ys) :: led) → compPost Γ.M Γ.A NoE use PQ (.ref D) C (.ok .next) (Γ.at h tk))
  (H : Run Γ.off vs led (eval iter Γ.env) fun xv vs led => Run Γ.off vs led (pyIter xv) (CompI Γ scope cl elt x ifs Fin))
  (hclos : closureFor scope Γ.env = pure cl) (hc : B1O scope x = true) (hs : ∀ x, foldedSetIterable iter Γ.env x = pure x) (S : St Γ h vs led) :
  wpAny Γ.M Γ.A (comprehension (.ListComp elt [⟨.Name x px, iter, ifs, 0⟩] scope pos) scope Γ.env pos0 (newList []) false (eval iter Γ.env) use) PQ NoE (Γ.at h tk) := by
 simp only [B1O, Bool.and_eq_true, List.all_eq_true, decide_eq_true_eq] at hc
 obtain ⟨⟨⟨hcell, hkind⟩, hnames⟩, hx⟩ := hc
 refine wpAny_comprehension_free (use := use) rfl hs hclos hkind hnames (H.useA S fun xv h₁ tk₁ vs₁ led₁ S₁ H₁ => H₁.useA S₁ fun it h₂ tk₂ vs₂ led₂ S₂ X => ?_)
 obtain ⟨pre, st, n, val, W, hn, a, led₀, J, e, sb, j0, hpre, turn, done⟩ := X
 subst e
 have S₃ := S₂.sub sb
 refine wpAny_newObj_type ?_
 have S₄ := S₃.alloc (lo := .list []) (o := { cls := .type "list", dict := none, data := .seq ([] : List Value).toArray }) ⟨0, rfl⟩ rfl
 refine wpAny_newFunctionEnv hcell (by intro y hy; simp at hy) (fun h₅ hns₅ hsb₅ => ?_) hkind
 dsimp only at hns₅ hsb₅ ⊢
 generalize h₂.objs.size = D at hns₅ hsb₅ S₄ ⊢
 generalize h₂.push { cls := .type "list", dict := none, data := .seq ([] : List Value).toArray } = H2 at hns₅ hsb₅ S₄ ⊢
 have S₅ := S₄.alloc (lo := .ns [(x, none)]) (o := { cls := .type "dict", data := .dict #[] }) ⟨#[], 0, rfl, fun e he => by simp at he, fun y => by rw [B0R]; rfl⟩ rfl
 obtain ⟨o₅, es₅, ep₅, g1, g2, g3, g4⟩ := hns₅
 have S₆ : St Γ h₅ vs₂ ((H2.objs.size, .ns [(x, none)]) :: (D, .list []) :: (a, st 0) :: led₀) := S₅.upd (lo := .ns [(x, none)]) (lo' := .ns [(x, none)]) .head hsb₅ g1 ⟨es₅, ep₅, g2, g3, fun y => by rw [g4, B0R]; rfl⟩
 clear S₅ S₄ S₃ S₂ S₁ S g1 g2 g3 g4 hsb₅
 generalize H2.objs.size = C at S₆ ⊢
 have S₇ : St Γ h₅ vs₂ ((a, st 0) :: (C, .ns [(x, none)]) :: (D, .list []) :: led₀) := S₆.perm ((List.Perm.cons _ (List.Perm.swap _ _ _)).trans (List.Perm.swap _ _ _))
 clear S₆
 generalize tk₂ + ([] : List (Str × Value)).length = tk₅
 have loop : ∀ h tk, St Γ h vs₂ ((a, st 0) :: (C, .ns [(x, none)]) :: (D, .list []) :: led₀) → codeAny Γ.M Γ.A (.compLoop (.ListComp elt [⟨.Name x px, iter, ifs, 0⟩] scope pos) 0 (.ref a) (.ref D) (compEnvC scope cl C Γ.env))
   (compPost Γ.M Γ.A NoE use PQ (.ref D) C) (Γ.at h tk) := fun h tk S =>
  codeAny_compLoop_tests (LoopI Γ vs₂ x st n a C D J) (fun m s L => by
   obtain ⟨i, h, tk, led, ys, o, hm, hi, S, j, hy⟩ := L
   have hp : pre ((C, .ns [(x, o)]) :: (D, .list ys) :: led) := W.more _ _ (W.more _ _ (hpre i ys led j))
   by_cases hin : i < n
   ·refine Run.useA (W.next i hin vs₂ _ a hp (fun r vs' led' => ∃ v, r = some v ∧ val i v ∧ vs' = vs₂ ∧ led' = (a, st (i + 1)) :: (C, .ns [(x, o)]) :: (D, .list ys) :: led) fun v hv => ⟨v, rfl, hv, rfl, rfl⟩) S fun r h' tk' vs' led' S' q => ?_
    obtain ⟨v, rfl, hv, rfl, rfl⟩ := q
    refine wpAny_assign_Name (wpAny_storeName_local (env := compEnvC scope cl C Γ.env) (lookup_relabel_local hx) (S'.nsAt (C := C) (vc := [(x, o)]) (.tail _ (.head _))) (fun h₂ hn₂ hs₂ => ?_) (by simp [compEnvC, relabel, hkind]))
    obtain ⟨o₂, es₂, ep₂, g1, g2, g3, g4⟩ := hn₂
    have S₂ : St Γ h₂ vs' ((a, st (i + 1)) :: (C, .ns [(x, some v)]) :: (D, .list ys) :: led) := S'.upd (lo := .ns [(x, o)]) (lo' := .ns [(x, some v)]) (.tail .head) hs₂ g1 ⟨es₂, ep₂, g2, g3, fun y => by rw [g4, ← B4P (o := o)]⟩
    have hlt : n - (i + 1) < m := by rw [hm]; exact Nat.sub_lt_sub_left hin (Nat.lt_succ_self i)
    refine Run.useA (turn i v ys led C D hin hv j hy) S₂ fun b h₃ tk₃ vs₃ led₃ S₃ q => ?_
    cases b with
    | false =>
     obtain ⟨rfl, led₁, sb, j'⟩ := q.2 rfl
     rw [if_neg Bool.false_ne_true]
     exact ⟨n - (i + 1), hlt, .mk (i + 1) h₃ tk₃ led₁ ys (some v) rfl hin (S₃.sub sb) j' (Nat.le_succ_of_le hy)⟩
    | true =>
     rw [if_pos rfl]
     refine Run.useA (q.1 rfl) S₃ fun y h₄ tk₄ vs₄ led₄ S₄ q => ?_
     obtain ⟨rfl, led₁, sb, j'⟩ := q
     refine Run.useA (A0y (Γ := Γ.off) (Q := fun _ vs led => vs = vs₄ ∧ led = (a, st (i + 1)) :: (C, .ns [(x, some v)]) :: (D, .list (ys ++ [y])) :: led₁) (.tail (.tail .head)) (Nat.le_trans hy (Nat.le_trans hi hn)) ⟨rfl, rfl⟩) (S₄.sub sb) fun _ h₅ tk₅ vs₅ led₅ S₅ e => ?_
     obtain ⟨rfl, rfl⟩ := e
     exact ⟨n - (i + 1), hlt, .mk (i + 1) h₅ tk₅ led₁ (ys ++ [y]) (some v) rfl hin S₅ j' (by rw [List.length_append]; exact Nat.succ_le_succ hy)⟩
   ·obtain rfl : i = n := Nat.le_antisymm hi (Nat.le_of_not_lt hin)
    refine Run.useA (W.stop vs₂ _ a hp (fun r vs' led' => r = none ∧ vs' = vs₂ ∧ led' = (C, .ns [(x, o)]) :: (D, .list ys) :: led) ⟨rfl, rfl, rfl⟩) S fun r h' tk' vs' led' S' q => ?_
    obtain ⟨rfl, rfl, rfl⟩ := q
    exact hfin _ _ D C ys o h' tk' (done ys led D j hy) S') n (.mk 0 h tk led₀ [] none rfl (Nat.zero_le _) S j0 (Nat.le_refl _))
 refine codeAny_compStart_list (loop h₅ tk₅ S₇) (Run.useA (W.self 0 vs₂ _ a (W.more _ _ (W.more _ _ (hpre 0 [] led₀ j0))) (fun r vs' led' => r = .ref a ∧ vs' = vs₂ ∧ led' = (a, st 0) :: (C, .ns [(x, none)]) :: (D, .list []) :: led₀) ⟨rfl, rfl, rfl⟩) S₇ fun r h' tk' vs' led' S' q => ?_)
 obtain ⟨rfl, rfl, rfl⟩ := q
 exact loop h' tk' S'
theorem A4k {elt iter : Expr} {x : Str} {px pos : Pos} {ifs : List Expr}
  (H : Run Γ.off vs led (eval iter Γ.env) fun xv vs led => Run Γ.off vs led (pyIter xv) (CompI Γ scope cl elt x ifs fun vs led D => Q (.ref D) vs led))
  (hclos : closureFor scope Γ.env = pure cl) (hc : B1O scope x = true) (hs : ∀ x, foldedSetIterable iter Γ.env x = pure x) : Run Γ vs led (eval (.ListComp elt [⟨.Name x px, iter, ifs, 0⟩] scope pos) Γ.env) Q := Run.leaf fun h tk S => by
 rw [eval_ListComp]
 exact A7K (use := none) (fun vs led D C ys o h tk q S' => ⟨_, S'.nsAt (.head _), fun h'' hs'' => Post.mk (S'.ext hs''.extBut) q⟩) H hclos hc hs S
end
end Mine
namespace Mine
theorem A8l {G : Ctx} {A : Around} (hG : G.In A) (hg : A.guards = some []) : ∀ x ∈ (G.code, (default : Pos)) :: G.below, x.1.isGuard = false := by
 have h := hG.2.2.2.1 [] hg
 obtain ⟨h1, h2⟩ := List.append_eq_nil_iff.mp h
 intro x hx
 cases hx with
 | head =>
  cases e : G.code.isGuard with
  | false => rfl
  | true => unfold Code.guards at h1; rw [e] at h1; cases h1
 | tail _ hx =>
  cases e : x.1.isGuard with
  | false => rfl
  | true =>
   have : x.1 ∈ guardsOf G.below := List.mem_filter.mpr ⟨List.mem_map_of_mem hx, e⟩
   rw [h2] at this; cases this
theorem A5S {M : Model} {A : Around} {E : Value → Shared → Prop} {s : Shared} {self : Value} {Q : Bool → Shared → Prop} (hg : A.guards = some []) (q : Q false s) : wpM true M A (Builtin.Bytes.exported self) Q E s := fun G p hG hc => by
 have h1 := A8l hG hg
 have h2 := hc rfl
 unfold Builtin.Bytes.exported
 have key : ∀ f : Code × Pos → Bool, (∀ c p, c.isGuard = false → A7x c = false → f (c, p) = false) → ((G.code, p) :: G.below).any f = false := fun f hf => by
  rw [List.any_eq_false]
  rintro ⟨c, p'⟩ hx
  rw [Bool.not_eq_true]
  cases hx with
  | head => exact hf _ _ (h1 _ (.head _)) h2.1
  | tail _ hx => exact hf _ _ (h1 _ (.tail _ hx)) (h2.2 _ hx)
 show (fun a s' => Q a s') (((G.code, p) :: G.below).any _) s
 rw [key _ ?_]
 ·exact q
 ·intro c p hc hd
  cases c with
  | builtin id args =>
   obtain ⟨l, kw⟩ := args
   have k (x : String) (hx : guardIds.contains x = true) : id ≠ x := fun e => by
    subst e
    rw [show Code.isGuard (.builtin id ⟨l, kw⟩) = guardIds.contains id from rfl, hx] at hc
    cases hc
   delta Builtin.Bytes.exported.match_1
   dsimp only
   refine (dif_neg (k _ (by decide +kernel))).trans ((dif_neg (k _ (by decide +kernel))).trans ((dif_neg (k _ (by decide +kernel))).trans ((dif_neg (k _ (by decide +kernel))).trans ((dif_neg (k _ (by decide +kernel))).trans ?_))))
   cases l with
   | nil => rfl
   | cons v r =>
    show (_ && A7x (.builtin id ⟨v :: r, kw⟩)) = false
    rw [hd, Bool.and_false]
  | _ => rfl
end Mine
namespace Mine
namespace BA
theorem slot_append : Slot "bytearray" "append" "bytearray.append" :=
 .of (owner := "bytearray") (n := "append") (by rw [typeLookup_type, builtinLookup_eq_fast]; kernel_rfl) (by decide +kernel) (by decide +kernel) (by decide +kernel)
  (by first | exact .inl (by decide +kernel) | exact .inr (by decide +kernel)) (by rw [isSubtype_type]; kernel_rfl)
theorem slot_extend : Slot "bytearray" "extend" "bytearray.extend" :=
 .of (owner := "bytearray") (n := "extend") (by rw [typeLookup_type, builtinLookup_eq_fast]; kernel_rfl) (by decide +kernel) (by decide +kernel) (by decide +kernel)
  (by first | exact .inl (by decide +kernel) | exact .inr (by decide +kernel)) (by rw [isSubtype_type]; kernel_rfl)
theorem slot_init : Slot "bytearray" "__init__" "bytearray.__init__" :=
 .of (owner := "bytearray") (n := "__init__") (by rw [typeLookup_type, builtinLookup_eq_fast]; kernel_rfl) (by decide +kernel) (by decide +kernel) (by decide +kernel)
  (by first | exact .inl (by decide +kernel) | exact .inr (by decide +kernel)) (by rw [isSubtype_type]; kernel_rfl)
theorem type_append : typeOf (.builtin "bytearray.append") = pure (.type "method_descriptor") := by show builtinType _ = _; rw [builtinType_eq_fast]; kernel_rfl
theorem type_extend : typeOf (.builtin "bytearray.extend") = pure (.type "method_descriptor") := by show builtinType _ = _; rw [builtinType_eq_fast]; kernel_rfl
theorem plainAttrs : PlainAttrs "bytearray" :=
 ⟨⟨"bytearray.__getattribute__", by rw [typeLookup_type, builtinLookup_eq_fast]; kernel_rfl, by decide +kernel⟩, by rw [typeLookup_type, builtinLookup_eq_fast]; kernel_rfl⟩
theorem entry_append : entryFor table "bytearray.append" = some Builtin.«bytearray.append» := entryFor_of_tree (by kernel_rfl)
theorem entry_extend : entryFor table "bytearray.extend" = some Builtin.«bytearray.extend» := entryFor_of_tree (by kernel_rfl)
theorem entry_init : entryFor table "bytearray.__init__" = some Builtin.«bytearray.__init__» := entryFor_of_tree (by kernel_rfl)
theorem entry_new : entryFor table "bytearray.__new__" = some Builtin.«list.__new__» := entryFor_alias (id' := "list.__new__") (by rw [fastTable_eq_tree]; kernel_rfl) rfl (by decide +kernel) (by rw [fastTable_eq_tree]; kernel_rfl)
theorem args_append (a v : Value) : argsOk "bytearray.append" ⟨[a, v], []⟩ := by unfold argsOk; kernel_rfl
theorem args_extend (a v : Value) : argsOk "bytearray.extend" ⟨[a, v], []⟩ := by unfold argsOk; kernel_rfl
theorem args_init (a : Value) : argsOk "bytearray.__init__" ⟨[a], []⟩ := by unfold argsOk; kernel_rfl
theorem mro : mroOf (.type "bytearray") = pure [.type "bytearray", .type "object"] := by rw [mroOf_type]; kernel_rfl
theorem A9o : typeLookup (.type "bytearray") "__new__" = pure (some (.builtin "bytearray.__new__")) := by rw [typeLookup_type, builtinLookup_eq_fast]; kernel_rfl
theorem sub_self : isSubtype (.type "bytearray") (.type "bytearray") = pure true := by rw [isSubtype_type]; kernel_rfl
theorem called : TypeCalled "bytearray" "bytearray.__new__" "bytearray.__init__" :=
 ⟨by decide +kernel, by decide +kernel, ⟨_, _, mro⟩, madeBy_type mro A9o (by decide +kernel), by decide +kernel, sub_self, slot_init⟩
theorem typeCall : checkTypeCall "bytearray" ⟨[], []⟩ = pure () := by kernel_rfl
theorem newCall : checkBuiltinCall "bytearray.__new__" ⟨[.type "bytearray"], []⟩ = pure () := by kernel_rfl
theorem look_buffer : typeLookup (.type "bytearray") "__buffer__" = pure (some (.builtin "bytearray.__buffer__")) := by rw [typeLookup_type, builtinLookup_eq_fast]; kernel_rfl
theorem look_release : typeLookup (.type "bytearray") "__release_buffer__" = pure (some (.builtin "bytearray.__release_buffer__")) := by rw [typeLookup_type, builtinLookup_eq_fast]; kernel_rfl
theorem without_bytes : typeLookup (.type "bytearray") "__bytes__" = pure none := by rw [typeLookup_type, builtinLookup_eq_fast]; kernel_rfl
theorem without_index : typeLookup (.type "bytearray") "__index__" = pure none := by rw [typeLookup_type, builtinLookup_eq_fast]; kernel_rfl
theorem plain_new : plainId "bytearray.__new__" = true := by decide +kernel
end BA
end Mine
namespace Mine
section
variable {nd : Bool} {w : World} {A : Around} {E : Value → Shared → Prop} {s : Shared}
theorem A2n {α : Type} {M : Model} {t : Sem α} {a : α} {Q : α → Shared → Prop} (e : t = pure a) (q : Q a s) : wpM nd M A t Q E s := A0v (wpAny_of_eq e q)
theorem A9B {id : String} {b : Builtin} {args : Args} {R : Result → Shared → Prop} (hq : plainId id = true) (hb : entryFor table id = some b) (hd : Builtin.Bytes.decodersThatHold.contains id = false)
  (hc : wpM nd (model pw w) A.in1 (b args) (fun fin s' => match fin with | .done f => R (.ok f) s' | .again c' => c'.quiet = true ∧ A3M nd (model pw w) A c' R s') (fun e s' => R (.error e) s') s) : A3M nd (model pw w) A (.builtin id args) R s := by
 refine A1c hd ?_
 rw [Around.under_plainId hq _]
 show wpM nd _ _ (match entryFor table id with | some b => b args | none => unsupported ((withoutEnding? id "#data").getD id)) _ _ _
 rw [hb]
 exact hc
theorem A4E {T : String} {name : Str} {id : String} {b : Builtin} {self : Value} {rest : List Value} {Q : Value → Shared → Prop} (slot : Slot T name id) (hT : s.TypeIs self T) (hb : entryFor table id = some b)
  (hd : Builtin.Bytes.decodersThatHold.contains id = false) (hc : wpM nd (model pw w) A.in1 (b ⟨self :: rest, []⟩) (fun fin s' => ∃ v, fin = .done (.ret v) ∧ Q v s') E s) (ha : argsOk id ⟨self :: rest, []⟩) :
  wpM nd (model pw w) A (call (.builtin id) (self :: rest)) Q E s := by
 refine A1E (A1c rfl ?_)
 show wpM nd _ A.in1 (do checkBuiltinCall id ⟨self :: rest, []⟩; again (.builtin id ⟨self :: rest, []⟩)) _ _ _
 refine A0f (A0v (slot.check _ _ _ _ _ _ _ _ hT ha (A0v (wpAny_pure ⟨plainId_quiet slot.plain _, A9B slot.plain hb hd (A2S hc (fun fin s' h' => ?_) fun _ _ x => x)⟩))))
 obtain ⟨v, rfl, hv⟩ := h'
 exact hv
noncomputable abbrev A4m (b : Array UInt8) : Obj := { cls := .type "bytearray", data := .bytearray b 0 }
theorem A6E {a : Addr} {b : Array UInt8} {f : Array UInt8 → Array UInt8} {Q : Unit → Shared → Prop} (ho : s.heap.get? a = some (A4m b)) (hz : (f b).size ≤ sizeLine)
  (h : ∀ h', Heap.SameBut a s.heap h' → h'.get? a = some (A4m (f b)) → Q () { s with heap := h' }) : wpAny (model pw w) A (Builtin.Bytes.write (.ref a) f) Q E s := by
 show wpAny _ _ (updateBytearray a f) _ _ _
 unfold updateBytearray
 refine wpAny_bind (wpAny_load ho ?_)
 show wpAny _ _ (update a (Obj.mapBytearray f) >>= fun _ => lookBehind a) _ _ _
 refine wpAny_bind (wpAny_update ho ?_)
 have h2 : (s.heap.update a (Obj.mapBytearray f)).get? a = some (A4m (f b)) := Heap.get?_update_self (Obj.mapBytearray f) ho rfl
 refine wpAny_lookBehind h2 ?_ (h _ (Heap.SameBut.update ..) h2)
 show (if (f b).size > sizeLine then some "bytearray:memory" else none) = none
 rw [if_neg (by omega)]
theorem A4w {a : Addr} {b : Array UInt8} {Q : Unit → Shared → Prop} (hg : A.guards = some []) (ho : s.heap.get? a = some (A4m b)) (q : Q () s) : wpM true (model pw w) A (Builtin.Bytes.checkResize (.ref a)) Q E s := by
 unfold Builtin.Bytes.checkResize
 refine A0f ?_
 show wpM true _ _ (orM (Builtin.Bytes.exported (.ref a)) _) _ _ _
 unfold orM
 refine A0f (A5S hg ?_)
 refine A0v ?_
 show wpAny _ _ ((do return (← Builtin.Bytes.exportsOf (.ref a)) > 0) : Sem Bool) _ _ _
 refine wpAny_bind ?_
 unfold Builtin.Bytes.exportsOf
 refine wpAny_bind (wpAny_load ho (wpAny_pure (wpAny_pure ?_)))
 exact A0v (wpAny_pure q)
end
section
variable {Γ : Cx} {vs : A0e} {led led' : Led} {h : Heap} {tk : Nat} {Q : Value → A0e → Led → Prop} {QB : Bool → A0e → Led → Prop}
theorem m_ba {name : Str} {id : String} {pl : Sem Bool} {Q : Value × List Value → A0e → Led → Prop} {a : Addr} {b : Array UInt8} (slot : Slot "bytearray" name id) (hty : typeOf (.builtin id) = pure (.type "method_descriptor")) (hm : (a, LObj.ba b) ∈ led)
  (q : Q (.builtin id, [.ref a]) vs led) : Run Γ vs led (getMethod (.ref a) name pl) Q := Run.leaf fun h tk S => by
 obtain ⟨o, ho, rfl, _⟩ := S.get hm
 exact getMethod_builtin (s := Γ.at h tk) ⟨_, ho, rfl⟩ BA.plainAttrs slot hty (fun x e => by cases e; exact ⟨_, ho, rfl⟩) (Post.mk S q)
theorem A9n {pl : Sem Bool} {Q : Value × List Value → A0e → Led → Prop} {a : Addr} {b : Array UInt8} (hm : (a, LObj.ba b) ∈ led) (q : Q (.builtin "bytearray.append", [.ref a]) vs led) : Run Γ vs led (getMethod (.ref a) "append" pl) Q :=
 m_ba BA.slot_append BA.type_append hm q
theorem A9m {pl : Sem Bool} {Q : Value × List Value → A0e → Led → Prop} {a : Addr} {b : Array UInt8} (hm : (a, LObj.ba b) ∈ led) (q : Q (.builtin "bytearray.extend", [.ref a]) vs led) : Run Γ vs led (getMethod (.ref a) "extend" pl) Q :=
 m_ba BA.slot_extend BA.type_extend hm q
theorem A4V {a : Addr} {b : Array UInt8} {n : Int} {t : Tok} {k : Nat} (hn : Γ.nd = true) (hd : Low Γ k) (h0 : 0 ≤ n) (h1 : n < 256) (hz : b.size ≤ 1000000) (U : Upd1 a (.ba b) (.ba (b.push n.toNat.toUInt8)) led led') (q : Q .none vs led') :
  Run Γ vs led (call (.builtin "bytearray.append") [.ref a, .int n t]) Q := fun h tk S => by
 obtain ⟨o, ho, rfl, _⟩ := S.get U.mem
 rw [hn]
 refine A4E (s := Γ.at h tk) BA.slot_append ⟨_, ho, rfl⟩ BA.entry_append (by decide +kernel) ?_ (BA.args_append _ _)
 show wpM true _ _ (Builtin.Bytes.byteValue (.int n t) >>= _) _ _ _
 refine A0f ?_
 unfold Builtin.Bytes.byteValue
 refine A0f (A2n (rfl : asIndex (.int n t) = pure n) ?_)
 rw [if_neg (by simp only [Bool.or_eq_true, decide_eq_true_eq]; omega)]
 refine A0v (wpAny_pure (A0f (A4w hd.gd ho (A0f (A0v (A6E ho ?_ fun h' hs ho' => A0v (wpAny_pure ⟨_, rfl, Post.mk (tk := tk) (S.upd U hs ho' rfl) q⟩)))))))
 rw [Array.size_push, sizeLine_eq]; omega
theorem A9F {id : String} {b : Array UInt8} {t : Tok} {full : Bool} : Builtin.Bytes.buffer? id (.bytes b t) full = pure (some b) := by
 unfold Builtin.Bytes.buffer?
 rw [KBy.special_eq KBy.look_buffer, KBy.own_buffer, KBy.own_release]
 kernel_rfl
theorem A9O {id : String} {b : Array UInt8} {t : Tok} {i : Int} : Builtin.Bytes.takeBufferQuiet? id (.bytes b t) i = pure (some (b, none)) := by
 unfold Builtin.Bytes.takeBufferQuiet? Builtin.Bytes.takeBuffer?
 rw [KBy.special_eq KBy.look_buffer, KBy.own_buffer]
 simp only [pure_bind]
 rw [A9F]
 rfl
theorem A7P {a : Addr} {b c : Array UInt8} {t : Tok} {k : Nat} (hn : Γ.nd = true) (hd : Low Γ k) (hz : b.size + c.size ≤ 1000000) (U : Upd1 a (.ba b) (.ba (b ++ c)) led led') (q : Q .none vs led') :
  Run Γ vs led (call (.builtin "bytearray.extend") [.ref a, .bytes c t]) Q := fun h tk S => by
 obtain ⟨o, ho, rfl, _⟩ := S.get U.mem
 rw [hn]
 refine A4E (s := Γ.at h tk) BA.slot_extend ⟨_, ho, rfl⟩ BA.entry_extend (by decide +kernel) ?_ (BA.args_extend _ _)
 unfold Builtin.«bytearray.extend»
 refine A0f (A2n (a := (Value.ref a, Value.bytes c t)) rfl ?_)
 dsimp only
 refine A0f (A2n (KBy.special_eq KBy.look_buffer) ?_)
 simp only [Option.isSome_some, if_true]
 refine A0f (A0v (wpAny_rule (A0f ?_)))
 unfold Builtin.Bytes.payload Builtin.Bytes.payload?
 refine A0f (A0v (wpAny_bind (wpAny_load ho (wpAny_pure (A0v (wpAny_pure ?_))))))
 refine A0f (A2n A9O ?_)
 have step : wpM true Γ.M Γ.A.in1 (Builtin.Bytes.write (.ref a) (· ++ c) >>= fun _ => ret .none) (fun fin s' => ∃ v, fin = .done (.ret v) ∧ Post Γ Q v s') NoE (Γ.at h tk) :=
  A0f (A0v (A6E ho (by rw [Array.size_append, sizeLine_eq]; omega) fun h' hs ho' => A0v (wpAny_pure ⟨_, rfl, Post.mk (tk := tk) (S.upd U hs ho' rfl) q⟩)))
 show wpM true _ _ (if (!c.isEmpty) = true then (Builtin.Bytes.checkResize (.ref a) >>= fun _ => Builtin.Bytes.write (.ref a) (· ++ c) >>= fun _ => ret .none) else Builtin.Bytes.write (.ref a) (· ++ c) >>= fun _ => ret .none) _ _ _
 split
 ·exact A0f (A4w hd.gd ho step)
 ·exact step
end
end Mine
namespace Mine
section
variable {Γ : Cx} {vs : A0e} {led led' : Led} {h : Heap} {tk : Nat} {Q : Value → A0e → Led → Prop} {QB : Bool → A0e → Led → Prop}
theorem A5T {w : World} {id : String} {args : Args} {b : Builtin} (hb : entryFor table id = some b) : (model pw w).den (.builtin id args) = b args := by
 show (match entryFor table id with | some b => b args | none => unsupported ((withoutEnding? id "#data").getD id)) = _
 rw [hb]
theorem A8n {w : World} {A : Around} {E Q₁ : Value → Shared → Prop} {s : Shared} (h : Q₁ (.ref s.heap.objs.size) { s with heap := s.heap.push (A4m #[]) }) :
  codeAny (model pw w) A (.call (.builtin "bytearray.__new__") ⟨[.type "bytearray"], []⟩) (wants Q₁ E) s := by
 refine codeAny_of_tree ?_
 show wpAny _ A.in1 (do checkBuiltinCall "bytearray.__new__" ⟨[.type "bytearray"], []⟩; again (.builtin "bytearray.__new__" ⟨[.type "bytearray"], []⟩)) _ _ s
 refine wpAny_bind (wpAny_of_eq BA.newCall (wpAny_pure ⟨plainId_quiet BA.plain_new _, codeAny_builtin_stack BA.entry_new rfl fun p st => ?_⟩))
 rw [Around.under_plainId BA.plain_new _]
 have hsub := BA.sub_self
 have hown := split_bytearray
 obtain ⟨hp, g, d, tk, os⟩ := s
 have e1 : (["bytearray", ""] : List String).headD "" = "bytearray" := rfl
 simp only [hown, e1]
 wp_walk
 exact h
theorem B2r {w : World} {A : Around} {E : Value → Shared → Prop} {s : Shared} {a : Addr} {b : Array UInt8} {Q : Bool → Shared → Prop} (ho : s.heap.get? a = some (A4m b)) (q : Q false s) : wpAny (model pw w) A (Builtin.Bytes.ownRelease (.ref a)) Q E s := by
 have hT : s.TypeIs (.ref a) "bytearray" := ⟨_, ho, rfl⟩
 have key : ∀ x : String, x = "bytearray" → ∀ {Q : Bool → Shared → Prop}, Q true s → wpAny (model pw w) A (isInstance (.ref a) (.type x)) Q E s := fun x hx Q q => by rw [hx]; exact wpAny_isInstance hT BA.sub_self q
 unfold Builtin.Bytes.ownRelease Builtin.Bytes.slotIsOwn
 refine wpAny_bind (wpAny_bind (wpAny_specialOf hT BA.look_release ?_))
 dsimp only
 split
 ·rename_i hx
  exact absurd hx (by decide +kernel)
 ·exact key _ (by decide +kernel) (wpAny_pure q)
theorem B0t : Builtin.Bytes.bindOptional "bytearray.__init__" "bytearray" ["source", "encoding", "errors"] [] [] = pure [none, none, none] := by kernel_rfl
theorem B4O {w : World} {A : Around} {E : Value → Shared → Prop} {s : Shared} {a : Addr} {Q : Fin → Shared → Prop} (hg : A.guards = some []) (ho : s.heap.get? a = some (A4m #[]))
  (q : ∀ h', Heap.SameBut a s.heap h' → h'.get? a = some (A4m #[]) → Q (.done (.ret .none)) { s with heap := h' }) : wpM true (model pw w) A (Builtin.«bytearray.__init__» ⟨[.ref a], []⟩) Q E s := by
 unfold Builtin.«bytearray.__init__»
 dsimp only
 refine A0f (A0v (B2r ho ?_))
 simp only [Bool.false_eq_true, if_false]
 refine A0f (A2n B0t ?_)
 dsimp only
 refine A0f (A2n (a := ()) rfl ?_)
 refine A0f (A2n (a := ()) rfl ?_)
 refine A0f ?_
 show wpM true _ _ (orM (Builtin.Bytes.exported (.ref a)) _) _ _ _
 unfold orM
 refine A0f (A5S hg (A0v ?_))
 show wpAny _ _ ((do return (← Builtin.Bytes.exportsOf (.ref a)) > 0) : Sem Bool) _ _ _
 refine wpAny_bind ?_
 unfold Builtin.Bytes.exportsOf
 refine wpAny_bind (wpAny_load ho (wpAny_pure (wpAny_pure ?_)))
 show wpM true _ _ (Builtin.Bytes.write (.ref a) (fun _ => #[]) >>= _) _ _ _
 refine A0f (A0v (A6E ho (Nat.zero_le _) fun h' hs ho' => ?_))
 exact A0v (wpAny_pure (q h' hs ho'))
theorem B4U {k : Nat} (hn : Γ.nd = true) (hd : Low Γ k) (q : ∀ a, Q (.ref a) vs ((a, .ba #[]) :: led)) : Run Γ vs led (call (.type "bytearray") []) Q := fun h tk S => by
 rw [hn]
 refine A1E (A1c rfl ?_)
 have hd' : A7x (.builtin "type.__call__" ⟨[.type "bytearray"], []⟩) = false := by decide +kernel
 have hq : (Code.builtin "type.__call__" ⟨[.type "bytearray"], []⟩).quiet = true := Code.quiet_builtin _ (by decide +kernel)
 show wpM true _ _ (again (.builtin "type.__call__" ⟨[.type "bytearray"], []⟩)) _ _ _
 refine A0v (wpAny_pure (And.intro hq (A1c hd' ?_)))
 rw [Around.under_plain (weight_type_call_type "bytearray" [] []) rfl]
 rw [show Γ.M.den (.builtin "type.__call__" ⟨[.type "bytearray"], []⟩) = _ from A5T F.entry_type_call]
 have h1 := BA.called.notType
 have h2 := BA.called.canCreate
 unfold Builtin.«type.__call__»
 dsimp only
 simp only [h1, h2, Bool.false_eq_true, if_false]
 refine A0f (A2n BA.typeCall (A0f (A2n BA.mro ?_)))
 simp only [List.isEmpty_cons, Bool.false_eq_true, if_false]
 refine A0f (A2n BA.called.made ?_)
 dsimp only
 refine A0f (A0v (wpAny_pure (A0f (A0v (wpAny_holding (wpAny_call (A8n (Q₁ := fun v s' => v = .ref h.objs.size ∧ s' = Γ.at (h.push (A4m #[])) tk) ⟨rfl, rfl⟩) |> fun x => wpAny_mono x (fun v s' e => ?_) fun _ _ x => x))))))
 obtain ⟨rfl, rfl⟩ := e
 have S' := S.alloc (lo := .ba #[]) (o := A4m #[]) rfl rfl
 have ho : (h.push (A4m #[])).get? h.objs.size = some (A4m #[]) := Heap.get?_push_size _ rfl
 have hT : (Γ.at (h.push (A4m #[])) tk).TypeIs (.ref h.objs.size) "bytearray" := ⟨_, ho, rfl⟩
 refine A0f (A0v (wpAny_isInstance hT BA.sub_self ?_))
 simp only [Bool.not_true, Bool.false_eq_true, if_false]
 refine A0f (A2h ?_)
 unfold callSpecial?
 refine A0f (A0v (wpAny_specialOf hT BA.slot_init.lookup ?_))
 dsimp only
 refine A2h (A0f (A2n (BA.slot_init.bind _) (A0f ?_)))
 dsimp only
 refine A4E (s := Γ.at (h.push (A4m #[])) tk) BA.slot_init hT BA.entry_init (by decide +kernel) (B4O hd.gd ho fun h' hs ho' => ⟨_, rfl, A0v (wpAny_pure ?_)⟩) (BA.args_init _)
 exact A0v (wpAny_pure (Post.mk (tk := tk) (S'.upd (lo := .ba #[]) (lo' := .ba #[]) .head hs ho' rfl) (q _)))
end
end Mine
namespace Mine
theorem A9p : typeLookup (.type "bytes") "__bytes__" = pure (some (.builtin "bytes.__bytes__")) := by rw [typeLookup_type, builtinLookup_eq_fast]; kernel_rfl
section
variable {w : World} {A : Around} {E : Value → Shared → Prop} {s : Shared} {Q : Value → Shared → Prop}
theorem A7N {x : Value} (h : wpAny (model pw w) A.in1.in1 (Builtin.«bytes.__new__» ⟨[.type "bytes", x], []⟩) (fun fin s' => ∃ v, fin = .done (.ret v) ∧ (s'.TypeIs v "bytes" ∧ Q v s')) E s) : wpAny (model pw w) A (call (.type "bytes") [x]) Q E s := by
 refine callType_codes (Q₁ := fun obj s₁ => s₁.TypeIs obj "bytes" ∧ Q obj s₁) F.bm_called (F.bm_typeCall _) F.entry_object_init ?_ fun obj s₁ h₁ => ⟨h₁.1, F.args_object_init_2 obj _, object_init_meets F.bm_called.init.lookup F.bm_called.made (by decide) pw w A.in1 _ s₁ ⟨h₁.1, rfl, h₁.2⟩⟩
 refine codeAny_of_tree ?_
 show wpAny _ A.in1.in1 (do checkBuiltinCall "bytes.__new__" ⟨[.type "bytes", x], []⟩; again (.builtin "bytes.__new__" ⟨[.type "bytes", x], []⟩)) _ _ s
 refine wpAny_bind (wpAny_of_eq (F.bm_newCall _) (wpAny_pure ⟨plainId_quiet F.bm_plain _, codeAny_builtin F.bm_entry ?_⟩))
 rw [Around.under_plainId F.bm_plain _]
 refine wpAny_mono h (fun fin s' h' => ?_) fun _ _ e => e
 obtain ⟨v, rfl, hv⟩ := h'
 exact hv
theorem A6n {b : Array UInt8} {t : Tok} (q : Q (.bytes b t) s) : wpAny (model pw w) A (call (.type "bytes") [.bytes b t]) Q E s := by
 refine A7N ?_
 unfold Builtin.«bytes.__new__»
 dsimp only
 refine wpAny_bind (wpAny_of_eq (a := true) rfl ?_)
 refine bm_if_false rfl ?_
 refine wpAny_bind (wpAny_of_eq F.bm_sub ?_)
 refine bm_if_false rfl ?_
 refine wpAny_bind (wpAny_of_eq (F.bm_bind _) ?_)
 refine wpAny_bind (wpAny_of_eq (a := ()) rfl ?_)
 refine wpAny_bind (wpAny_of_eq (a := ()) rfl ?_)
 refine bm_if_false rfl ?_
 refine wpAny_bind (wpAny_of_eq (KBy.special_eq A9p) ?_)
 refine wpAny_bind (wpAny_rule (wpAny_bind (wpAny_typeOf (typeIs_bytes _ _ _) ?_)))
 refine bm_if_true (by decide) ?_
 show wpAny _ _ (if (Value.type "bytes" == Value.type "bytes") = true then _ else _) _ _ _
 refine bm_if_true (by decide) ?_
 exact wpAny_pure ⟨_, rfl, typeIs_bytes _ _ _, q⟩
theorem B0P {id : String} {a : Addr} {b : Array UInt8} {full : Bool} {Q : Option (Array UInt8) → Shared → Prop} (ho : s.heap.get? a = some (A4m b)) (q : Q (some b) s) : wpAny (model pw w) A (Builtin.Bytes.buffer? id (.ref a) full) Q E s := by
 have hT : s.TypeIs (.ref a) "bytearray" := ⟨_, ho, rfl⟩
 have key : ∀ x : String, x = "bytearray" → ∀ {Q : Bool → Shared → Prop}, Q true s → wpAny (model pw w) A (isInstance (.ref a) (.type x)) Q E s := fun x hx Q q => by rw [hx]; exact wpAny_isInstance hT BA.sub_self q
 have own : ∀ {Q : Bool → Shared → Prop}, Q true s → wpAny (model pw w) A (Builtin.Bytes.slotIsOwn (.ref a) "__buffer__") Q E s := fun {Q} q => by
  unfold Builtin.Bytes.slotIsOwn
  refine wpAny_bind (wpAny_specialOf hT BA.look_buffer ?_)
  dsimp only
  split
  ·rename_i hx
   exact absurd hx (by decide +kernel)
  ·exact key _ (by decide +kernel) q
 unfold Builtin.Bytes.buffer?
 refine wpAny_bind (wpAny_specialOf hT BA.look_buffer ?_)
 dsimp only
 refine wpAny_bind (own ?_)
 simp only [Bool.not_true, Bool.false_eq_true, if_false]
 refine wpAny_bind (wpAny_specialOf hT BA.look_buffer ?_)
 skip
 refine wpAny_bind (B2r ho ?_)
 simp only [Bool.false_eq_true, if_false]
 unfold Builtin.Bytes.payload Builtin.Bytes.payload?
 exact wpAny_bind (wpAny_bind (wpAny_bind (wpAny_load ho (wpAny_pure (wpAny_pure (wpAny_pure q))))))
theorem A8t {a : Addr} {b : Array UInt8} (ho : s.heap.get? a = some (A4m b)) (hz : b.size ≤ sizeLine) (q : ∀ t, Q (.bytes b t) { s with toks := t + 1 }) : wpAny (model pw w) A (call (.type "bytes") [.ref a]) Q E s := by
 have hT : s.TypeIs (.ref a) "bytearray" := ⟨_, ho, rfl⟩
 refine A7N ?_
 unfold Builtin.«bytes.__new__»
 dsimp only
 refine wpAny_bind (wpAny_of_eq (a := true) rfl ?_)
 refine bm_if_false rfl ?_
 refine wpAny_bind (wpAny_of_eq F.bm_sub ?_)
 refine bm_if_false rfl ?_
 refine wpAny_bind (wpAny_of_eq (F.bm_bind _) ?_)
 refine wpAny_bind (wpAny_of_eq (a := ()) rfl ?_)
 refine wpAny_bind (wpAny_of_eq (a := ()) rfl ?_)
 refine bm_if_false rfl ?_
 refine wpAny_bind (wpAny_specialOf hT BA.without_bytes ?_)
 refine wpAny_bind (wpAny_bind ?_)
 show wpAny _ _ (load a >>= _) _ _ _
 refine wpAny_bind (wpAny_load ho ?_)
 refine wpAny_pure (wpAny_pure ?_)
 refine bm_if_false rfl ?_
 refine wpAny_bind (wpAny_specialOf hT BA.without_index ?_)
 refine bm_if_true rfl ?_
 first
  | show wpAny _ _ (Builtin.Bytes.buffer? "bytes.__new__" (.ref a) true >>= _) _ _ _
  | (refine wpAny_bind ?_; show wpAny _ _ (Builtin.Bytes.buffer? "bytes.__new__" (.ref a) true >>= _) _ _ _)
 refine wpAny_bind (B0P ho ?_)
 refine wpAny_bind (wpAny_rule (wpAny_bind (wpAny_mkBytes ?_ hz)))
 show wpAny _ _ (if (Value.type "bytes" == Value.type "bytes") = true then _ else _) _ _ _
 refine bm_if_true (by decide) ?_
 exact wpAny_pure ⟨_, rfl, typeIs_bytes _ _ _, q _⟩
end
section
variable {Γ : Cx} {vs : A0e} {led led' : Led} {h : Heap} {tk : Nat} {Q : Value → A0e → Led → Prop} {QB : Bool → A0e → Led → Prop}
theorem A5A {b : Array UInt8} {t : Tok} (q : Q (.bytes b t) vs led) : Run Γ vs led (call (.type "bytes") [.bytes b t]) Q := Run.leaf fun h tk S => A6n (Post.mk S q)
theorem B2l {a : Addr} {b : Array UInt8} (hm : (a, LObj.ba b) ∈ led) (hz : b.size ≤ 1000000) (q : ∀ t, Q (.bytes b t) vs led) : Run Γ vs led (call (.type "bytes") [.ref a]) Q := Run.leaf fun h tk S => by
 obtain ⟨o, ho, rfl, _⟩ := S.get hm
 exact A8t (s := Γ.at h tk) ho (by rw [sizeLine_eq]; omega) fun t => Post.mk (tk := t + 1) S (q t)
end
end Mine
namespace Mine
section
variable {Γ : Cx} {vs : A0e} {led led' : Led} {h h' : Heap} {tk : Nat} {α : Type}
theorem Run.sub' {t : Sem α} {Q : α → A0e → Led → Prop} (H : Run Γ vs led t fun a vs led' => ∃ led'', Sub led'' led' ∧ Q a vs led'') : Run Γ vs led t Q := fun h tk S =>
 H.use S fun _ _ _ _ _ S' ⟨_, sb, q⟩ => Post.mk (S'.sub sb) q
theorem St.extBut (S : St Γ h vs led) (e : Heap.ExtBut h.objs.size h h') : St Γ h' vs led := by
 obtain ⟨news, R, N⟩ := S.N
 exact { B := S.B, F := S.F.extBut e (Nat.le_refl _), X := S.X, T := S.T, hk := S.hk, N := ⟨_, R, N.extBut e (Nat.le_refl _)⟩, nd := S.nd, nv := S.nv, hl := S.hl, hg := S.hg }
variable {env : Env}
noncomputable def A8B (Γ : Cx) (env : Env) : List Expr → List Value → A0e → Led → (A0e → Led → Prop) → Prop
 | t :: ts, v :: xs, vs, led, Q => Run Γ vs led (assign t env v) fun _ vs led => A8B Γ env ts xs vs led Q
 | _, _, vs, led, Q => Q vs led
theorem A7R {Q : A0e → Led → Prop} : ∀ {ts : List Expr} {xs : List Value} {vs : A0e} {led : Led}, (∀ t ∈ ts, ∀ u p, t ≠ .Starred u p) → A8B Γ env ts xs vs led Q → Run Γ vs led (assignInOrder ((assignEach ts env).map (·.2)) xs) fun _ vs led => Q vs led
 | [], _, _, _, _, H => by
  show Run Γ _ _ (assignInOrder [] _) _
  unfold assignInOrder
  exact Run.pure H
 | t :: ts, [], _, _, _, H => by
  have : assignInOrder ((assignEach (t :: ts) env).map (·.2)) [] = pure () := by
   cases (assignEach (t :: ts) env).map (·.2) <;> rfl
  rw [this]
  exact Run.pure H
 | t :: ts, v :: xs, _, _, hs, H => by
  have e : assignEach (t :: ts) env = (false, assign t env) :: assignEach ts env := by
   cases t <;> first | rfl | exact absurd rfl (hs _ (.head _) _ _)
  rw [e]
  show Run Γ _ _ (do holding xs (assign t env v); assignInOrder ((assignEach ts env).map (·.2)) xs) _
  exact Run.thn (Run.hold H) fun _ _ _ q => A7R (fun t ht => hs t (.tail _ ht)) q
theorem A8A {elts : List Expr} {k : Nat} {pos : Pos} {a : Addr} {l : List Value} {Q : Unit → A0e → Led → Prop} (hm : (a, LObj.tup l) ∈ led) (H : A8B Γ env elts l vs led fun vs led => Q () vs led)
  (hn : (assignEach elts env).length = l.length) (hstar : (assignEach elts env).findIdx? (·.1) = none) (hs : ∀ t ∈ elts, ∀ u p, t ≠ .Starred u p) : Run Γ vs led (assign (.Tuple elts k pos) env (.ref a)) Q := by
 rw [assign_Tuple]
 refine Run.stand fun h tk S => ?_
 unfold unpack
 refine A0f (A2h ?_)
 rw [hn, hstar, show l.length = l.toArray.size by simp]
 refine A0v (unpackItems_tuple rfl (S.isTup hm) fun h' e => ?_)
 exact A7R hs H h' tk (S.extBut e)
theorem A0b {x : Str} {p : Pos} {v : Value} {vs' : A0e} {Q : Unit → A0e → Led → Prop} (U : VUpd x v vs vs') (q : Q () vs' led) : Run Γ vs led (assign (.Name x p) Γ.env v) Q := by
 show Run Γ vs led (do standAt p; bindName Γ.env x v) Q
 exact Run.stand (A5l (B1b U q))
variable {k : List (List Stmt)} {rest : List Stmt} {Q : Flow → A0e → Led → Prop}
theorem A8w {elts : List Expr} {n : Nat} {tpos pos : Pos} {value : Expr} (H : Run Γ vs led (eval value Γ.env) fun v vs led => Run Γ vs led (assign (.Tuple elts n tpos) Γ.env v) fun _ vs led => Do Γ vs led (rest :: k) Q)
  (hs : swapsWithSole [.Tuple elts n tpos] value pos.line Γ.env = pure false := by rfl)
  (hw : swappedStores [.Tuple elts n tpos] value Γ.env = pure none := by rfl) : Do Γ vs led ((.Assign [.Tuple elts n tpos] value pos :: rest) :: k) Q := B0T (by
 rw [exec_Assign]
 refine Run.stand ?_
 rw [hs]
 refine Run.pb ?_
 rw [if_neg (by decide)]
 refine Run.thn H fun v vs led q => ?_
 rw [hw]
 refine Run.pb ?_
 show Run Γ vs led (do assignAll v [assign (.Tuple elts n tpos) Γ.env]; pure Flow.next) _
 generalize assign (.Tuple elts n tpos) Γ.env = f at q ⊢
 exact Run.thn (P := fun _ vs led => Do Γ vs led (rest :: k) Q) q fun _ vs led q => Run.pure ⟨rfl, q⟩)
theorem A7S {body orelse : List Stmt} {handlers : List ExceptHandler} {pos : Pos} (H : Do Γ vs led [body] fun f vs led => match f with
  | .next => Do Γ vs led (orelse :: rest :: k) Q
  | f => Q f vs led) : Do Γ vs led ((.Try body handlers orelse [] pos :: rest) :: k) Q := by
 refine A5Z ?_
 rw [arm_exec_Try]
 refine Run.stand ?_
 unfold tryStmt
 have H' : Run Γ vs led (execs body Γ.env) fun f vs led => match f with
  | .next => Do Γ vs led (orelse :: rest :: k) Q
  | f => Q f vs led := Run.mono H fun f vs led q => by cases f <;> exact q
 simp only [List.isEmpty_nil, if_true]
 refine Run.thn (Run.att (Q := fun r vs led => ∃ f, r = .ok f ∧ (match f with
  | .next => Do Γ vs led (orelse :: rest :: k) Q
  | f => Q f vs led)) (H'.mono fun f vs led q => ⟨f, rfl, q⟩)) fun r vs led ⟨f, e, q⟩ => ?_
 subst e
 cases f with
 | next => exact Run.mono q fun f vs led q => by cases f <;> exact q
 | brk => exact Run.pure q
 | cont => exact Run.pure q
 | ret v => exact Run.pure q
theorem A6C {pos : Pos} (q : Q .cont vs led) : Do Γ vs led ((.Continue pos :: rest) :: k) Q := A5Z (by
 rw [arm_exec_Continue]
 exact Run.stand (Run.pure q))
theorem B2g {o i : Expr} {dp pos : Pos} (H : Run Γ vs led (eval o Γ.env) fun ov vs led => Run Γ vs led (eval i Γ.env) fun iv vs led => Run Γ vs led (delItem ov iv) fun _ vs led => Do Γ vs led (rest :: k) Q) :
  Do Γ vs led ((.Delete [.Subscript o i dp] pos :: rest) :: k) Q := B0T (by
 rw [arm_exec_Delete]
 refine Run.stand (Run.thn (P := fun _ vs led => Do Γ vs led (rest :: k) Q) ?_ fun _ vs led q => Run.pure ⟨rfl, q⟩)
 show Run Γ vs led (do
  (do
   let ov ← eval o Γ.env
   let iv ← holding [ov] (eval i Γ.env)
   standAt dp
   holding [ov, iv] (delItem ov iv)
   release [ov, iv] [] : Sem Unit)
  deleteEach [] Γ.env) _
 refine Run.thn (P := fun _ vs led => Do Γ vs led (rest :: k) Q) (Run.thn H fun ov vs led q => Run.thn (Run.hold q) fun iv vs led q => Run.stand (Run.thn (Run.hold q) fun _ vs led q => B1d q)) fun _ vs led q => ?_
 show Run Γ vs led (pure ()) _
 exact Run.pure q)
variable {QV : Value → A0e → Led → Prop}
theorem A7Z {e e₂ : Expr} {r : List Expr} {pos : Pos} (H : Run Γ vs led (eval e env) fun v vs led => Run Γ vs led (truthy v) fun b vs led => (b = true → Run Γ vs led (eval (.BoolOp .And (e₂ :: r) pos) env) QV) ∧ (b = false → QV v vs led)) :
  Run Γ vs led (eval (.BoolOp .And (e :: e₂ :: r) pos) env) QV := by
 show Run Γ vs led (do
            let v ← eval e env
            standAt pos
            let c ← holding [v] (truthy v)
            match BoolOp.And, c with
            | .And, false | .Or, true => pure v
            | _, _ => boolOp pos .And (evalEach (e₂ :: r) env)) QV
 refine Run.thn H fun v vs led q => Run.stand (Run.thn (Run.hold q) fun b vs led q => ?_)
 cases b with
 | true => exact q.1 rfl
 | false => exact Run.pure (q.2 rfl)
theorem R_Or {e e₂ : Expr} {r : List Expr} {pos : Pos} (H : Run Γ vs led (eval e env) fun v vs led => Run Γ vs led (truthy v) fun b vs led => (b = false → Run Γ vs led (eval (.BoolOp .Or (e₂ :: r) pos) env) QV) ∧ (b = true → QV v vs led)) :
  Run Γ vs led (eval (.BoolOp .Or (e :: e₂ :: r) pos) env) QV := by
 show Run Γ vs led (do
            let v ← eval e env
            standAt pos
            let c ← holding [v] (truthy v)
            match BoolOp.Or, c with
            | .And, false | .Or, true => pure v
            | _, _ => boolOp pos .Or (evalEach (e₂ :: r) env)) QV
 refine Run.thn H fun v vs led q => Run.stand (Run.thn (Run.hold q) fun b vs led q => ?_)
 cases b with
 | false => exact q.1 rfl
 | true => exact Run.pure (q.2 rfl)
theorem A4e {op : BoolOp} {e : Expr} {pos : Pos} (H : Run Γ vs led (eval e env) QV) : Run Γ vs led (eval (.BoolOp op [e] pos) env) QV := H
theorem B5i {v : Value} (H : Run Γ vs led (truthy v) fun b vs led => QV (.bool (!b)) vs led) : Run Γ vs led (unaryOp .Not v) QV := by
 unfold unaryOp
 refine Run.hold ?_
 show Run Γ vs led (do return Value.bool (!(← truthy v))) QV
 exact Run.thn H fun b vs led q => Run.pure q
end
end Mine
namespace Mine
section
variable {Γ : Cx} {vs : A0e} {led led' : Led} {h h' : Heap} {tk : Nat} {Q : Value → A0e → Led → Prop} {QB : Bool → A0e → Led → Prop}
theorem St.grown (S : St Γ h vs led) (hk : ∀ b o, h.get? b = some o → h'.get? b = some o) : St Γ h' vs led := by
 obtain ⟨news, R, N⟩ := S.N
 exact { B := S.B, F := S.F.grownK hk, X := S.X, T := S.T, hk := S.hk, N := ⟨_, R, N.grown hk⟩, nd := S.nd, nv := S.nv, hl := S.hl, hg := S.hg }
theorem St.grown1 {D : Addr} {lo : LObj} {o : Obj} (S : St Γ h vs led) (hk : ∀ b o, h.get? b = some o → h'.get? b = some o) (hD : h.objs.size ≤ D) (ho : h'.get? D = some o) (hi : lo.Is o) : St Γ h' vs ((D, lo) :: led) := by
 obtain ⟨news, R, N⟩ := S.N
 refine { B := S.B, F := S.F.grownK hk, X := S.X, T := S.T, hk := S.hk, N := ⟨(D, o) :: news, .cons hi R, fun p hp => ?_⟩, nd := ?_, nv := S.nv, hl := S.hl, hg := S.hg }
 ·rcases List.mem_cons.mp hp with rfl | hp
  ·refine ⟨ho, fun e => ?_, ?_⟩
   ·have hlt := S.F.ns.lt
    have e' : D = Γ.L := e
    rw [← e'] at hlt
    exact Nat.lt_irrefl _ (Nat.lt_of_lt_of_le hlt hD)
   ·cases q : Γ.h₀.get? D with
    | none => rfl
    | some x => exact absurd (Heap.lt_size (S.F.keep _ _ q)) (Nat.not_lt.mpr hD)
  ·exact (N.grown hk) p hp
 ·rw [List.map_cons, List.nodup_cons]
  refine ⟨fun hm => ?_, S.nd⟩
  obtain ⟨p, hp, e⟩ := List.mem_map.mp hm
  have hlt := S.lt hp
  have e' : p.1 = D := e
  rw [e'] at hlt
  exact Nat.lt_irrefl _ (Nat.lt_of_lt_of_le hlt hD)
noncomputable def A5D (a b c : Int) (t u v : Tok) : LObj := .raw { cls := .type "range", dict := none, data := .fields #[.int a t, .int b u, .int c v], slots := #[] }
theorem A3e {n : Int} {t : Tok} (q : ∀ a u v, Q (.ref a) vs ((a, A5D 0 n 1 u t v) :: led)) : Run Γ vs led (call (.type "range") [.int n t]) Q := Run.leaf fun h tk S =>
 call_range_1 (Post.mk (tk := tk + 1 + 1) (S.alloc (lo := A5D 0 n 1 tk t (tk + 1)) rfl rfl) (q _ _ _))
theorem A8q {a n : Int} {t u : Tok} (q : ∀ r v, Q (.ref r) vs ((r, A5D a n 1 t u v) :: led)) : Run Γ vs led (call (.type "range") [.int a t, .int n u]) Q := Run.leaf fun h tk S =>
 call_range_2 (Post.mk (tk := tk + 1) (S.alloc (lo := A5D a n 1 t u tk) rfl rfl) (q _ _))
noncomputable def itR (a : Int) (n : Nat) (i : Nat) : LObj := .raw { cls := .type "range_iterator", dict := none, data := .fields #[rawInt (a + i), rawInt ((n : Int) - i), rawInt 1], slots := #[] }
theorem A6r (a : Int) (n : Nat) : Builtin.Range.rangeSize a (a + n) 1 = n := by
 unfold Builtin.Range.rangeSize
 simp only [Int.zero_lt_one, gt_iff_lt, if_true]
 split
 ·rw [Int.ediv_one]; omega
 ·omega
theorem A8R {r : Addr} {a : Int} {n : Nat} {t u v : Tok} (hm : (r, A5D a (a + n) 1 t u v) ∈ led) (ha : 0 ≤ a) (ha2 : a ≤ 1000000) (hn : n ≤ 1000000) (q : ∀ i, Q (.ref i) vs ((i, itR a n 0) :: led)) : Run Γ vs led (pyIter (.ref r)) Q := Run.leaf fun h tk S => by
 obtain ⟨o, ho, rfl, _⟩ := S.get hm
 refine wpAny_pyIter_range (s := Γ.at h tk) (a := a) (b := a + n) (c := 1) ho ?_ (Post.mk (tk := tk) (S.alloc (lo := itR a n 0) ?_ rfl) (q _))
 ·unfold Builtin.Range.small
  rw [A6r]
  unfold Builtin.Range.rangeFitsLong
  simp
  omega
 ·show _ = _
  rw [A6r]
  simp
theorem A6o (Γ : Cx) (a : Int) (n : Nat) : Walk Γ (fun _ => True) (itR a n) n (fun i v => ∃ t, v = .int (a + i) t) := by
 refine ⟨fun i hi vs led it hm Q q => Run.leaf fun h tk S => ?_, fun i vs led it hm Q q => Run.leaf fun h tk S => ?_, fun led p hm => trivial, fun vs led it hm Q q => Run.leaf fun h tk S => ?_⟩
 ·obtain ⟨o, ho, rfl, _⟩ := S.get (a := it) (lo := itR a n i) (.head _)
  refine wpAny_pyNext_range_item (s := Γ.at h tk) (x := a + i) (left := (n : Int) - i) (step := 1) ho (by omega) fun h' hit hs => ?_
  have U : Upd1 it (itR a n i) (itR a n (i + 1)) ((it, itR a n i) :: led) ((it, itR a n (i + 1)) :: led) := .head
  refine Post.mk (tk := tk + 1) (S.upd U hs hit ?_) (q _ ⟨_, rfl⟩)
  show _ = _
  rw [show a + ↑(i + 1) = a + ↑i + 1 by omega, show (n : Int) - ↑(i + 1) = n - i - 1 by omega]
 ·obtain ⟨o, ho, rfl, _⟩ := S.get (a := it) (lo := itR a n i) (.head _)
  exact wpAny_pyIter_rangeiter (s := Γ.at h tk) (x := a + i) (left := (n : Int) - i) (step := 1) ho (Post.mk S q)
 ·obtain ⟨o, ho, rfl, _⟩ := S.get (a := it) (lo := itR a n n) (.head _)
  exact wpAny_pyNext_range_end (s := Γ.at h tk) (x := a + n) (left := (n : Int) - n) (step := 1) rfl ho (by omega) fun h' e => Post.mk (tk := tk) (S.ext e) q
theorem A4L {l : Addr} {xs : List Value} {k : Int} {u : Tok} {v : Value} {Q : Unit → A0e → Led → Prop} (h0 : 0 ≤ k) (h1 : k < xs.length) (hz : xs.length ≤ 1000000) (U : Upd1 l (.list xs) (.list (xs.set k.toNat v)) led led') (q : Q () vs led') : Run Γ vs led (setItem (.ref l) (.int k u) v) Q := Run.leaf fun h tk S => by
 obtain ⟨o2, ho2, ⟨n2, rfl⟩, _⟩ := S.get U.mem
 have hsz : k.toNat < xs.toArray.size := by rw [List.size_toArray]; omega
 refine ki_setAt (s := Γ.at h tk) (n := n2) ho2 h0 (by omega) (by omega) (Post.mk (tk := tk) (S.upd (o' := { cls := .type "list", data := .seq (xs.set k.toNat v).toArray n2 }) U (Heap.SameBut.update ..) ?_ ⟨n2, rfl⟩) q)
 have z := PySem.IsL.update (h := h) (l := l) (items := xs.toArray) (n := n2) ho2 (·.setIfInBounds k.toNat v)
 have e : xs.toArray.setIfInBounds k.toNat v = (xs.set k.toNat v).toArray := by apply Array.toList_inj.mp; simp
 rw [e] at z
 simp at z
 exact z
theorem B2d {a b : Addr} {xs ys : List Value} (ha : (a, LObj.list xs) ∈ led) (hb : (b, LObj.list ys) ∈ led) (hz : xs.length + ys.length ≤ 1000000) (q : ∀ d, Q (.ref d) vs ((d, .list (xs ++ ys)) :: led)) : Run Γ vs led (binaryOp .Add (.ref a) (.ref b)) Q := Run.leaf fun h tk S => by
 obtain ⟨news, R, N⟩ := S.N
 refine add_lists (s := Γ.at h tk) S.F N (S.isList ha) (S.isList hb) (fun h' F' N' => ?_) (by rw [sizeLine_eq]; exact Nat.le_trans hz (by decide))
 refine Post.mk (tk := tk) { B := S.B, F := F', X := S.X, T := S.T, hk := S.hk, N := ⟨_, .cons (lo := .list (xs ++ ys)) ⟨0, rfl⟩ R, N'⟩, nd := ?_, nv := S.nv, hl := S.hl, hg := S.hg } (q h.objs.size)
 rw [List.map_cons, List.nodup_cons]
 refine ⟨fun hm => ?_, S.nd⟩
 obtain ⟨p, hp, e⟩ := List.mem_map.mp hm
 have hlt := S.lt hp
 have e' : p.1 = h.objs.size := e
 rw [e'] at hlt
 exact Nat.lt_irrefl _ hlt
theorem A7v {a : Addr} {xs : List Value} (ha : (a, LObj.list xs) ∈ led) (hz : xs.length ≤ 1000000) (q : ∀ d, Q (.ref d) vs ((d, .list xs) :: led)) : Run Γ vs led (call (.type "list") [.ref a]) Q := Run.leaf fun h tk S => by
 obtain ⟨o, ho, ⟨n, rfl⟩, _⟩ := S.get ha
 exact call_list_seq (s := Γ.at h tk) a (.inl rfl) ho rfl rfl (fun h' c' hk hD => Post.mk (tk := tk) (S.grown1 (lo := .list xs) hk (Nat.le_refl _) hD ⟨c', rfl⟩) (q _)) (by rw [List.size_toArray, sizeLine_eq]; omega)
theorem A1V {a : Addr} {xs : List Value} (ha : (a, LObj.list xs) ∈ led) (hz : xs.length ≤ 1000000) (q : ∀ d, Q (.ref d) vs ((d, .tup xs) :: led)) : Run Γ vs led (call (.type "tuple") [.ref a]) Q := Run.leaf fun h tk S =>
 call_tuple_list (s := Γ.at h tk) (S.isList ha) (fun h' hk => Post.mk (tk := tk) ((S.grown hk).alloc (lo := .tup xs) ⟨0, rfl⟩ rfl) (q _)) (by rw [List.size_toArray, sizeLine_eq]; omega)
theorem B1B {a b : Int} {t u : Tok} (q : ∀ t, Q (.int (max a b) t) vs led) : Run Γ vs led (call (.builtin "max") [.int a t, .int b u]) Q := Run.leaf fun h tk S =>
 max_two_ints (s := Γ.at h tk) rfl fun h' tk' hk => by
  split
  ·rename_i hc
   have := q u
   rw [show max a b = b by omega] at this
   exact Post.mk (S.grown hk) this
  ·rename_i hc
   have := q t
   rw [show max a b = a by omega] at this
   exact Post.mk (S.grown hk) this
theorem A3I {l : Addr} {xs : List Value} {ns : List Int} {k : Int} {t : Tok} (hm : (l, LObj.list xs) ∈ led) (hi : IntsAre xs ns) (q : Q (.bool (decide (k ∉ ns))) vs led) : Run Γ vs led (compareOp .NotIn (.int k t) (.ref l)) Q := Run.leaf fun h tk S =>
 notin_list_ints (s := Γ.at h tk) (S.isList hm) hi (Post.mk S (by
  have : (!(ns.any (· == k))) = decide (k ∉ ns) := by rw [List.any_beq']; simp
  rwa [this]))
theorem A5r {l a : Addr} {xs : List Value} {ps : List (Int × Int)} {p q : Int} {t u : Tok} (hu : Γ.un ≤ 9000) (hl : (l, LObj.list xs) ∈ led) (P : Pairs led xs ps) (hm : (a, LObj.tup [.int p t, .int q u]) ∈ led) (k : Q (.bool (decide ((p, q) ∉ ps))) vs led) :
  Run Γ vs led (compareOp .NotIn (.ref a) (.ref l)) Q := Run.leaf fun h tk S => by
 obtain ⟨o, ho, ⟨n, rfl⟩, _⟩ := S.get hl
 have hb : (!(ps.map A4y).any fun y => PyData.eqv y (A4y (p, q))) = decide ((p, q) ∉ ps) := by
  rw [List.any_map]
  simp only [Function.comp_def, A8G]
  by_cases hp : (p, q) ∈ ps
  ·rw [decide_eq_false (by simpa using hp), Bool.not_eq_false', List.any_eq_true]; exact ⟨_, hp, by simp⟩
  ·rw [decide_eq_true hp, Bool.not_eq_true', ← Bool.not_eq_true, List.any_eq_true]
   rintro ⟨x, hx, e⟩
   exact hp (by simpa using (by simpa using e : x = (p, q)) ▸ hx)
 refine SeqAt.notIn_list_reads (s := Γ.at h tk) (.list ho rfl rfl (S.reads_pairs P)) (S.reads_pair hm) (A8F ps) rfl ?_ (by rw [hb]; exact Post.mk S k)
 have := A6t ps (A4y (p, q)) (by simp [A4y, PyData.depth, PyData.depthAll])
 have hc := cLine_is
 show Γ.un + 1 + _ < cLine
 omega
theorem A6M {l : Addr} {xs : List Value} {ns : List Int} {k : Int} {t : Tok} (hm : (l, LObj.list xs) ∈ led) (hi : IntsAre xs ns) (hlay : PyData.layable0 (.list (ns.map .int)) = true) (hk : k ∈ ns) (q : ∀ t, Q (.int (ns.idxOf k : Nat) t) vs led) :
  Run Γ vs led (call (.builtin "list.index") [.ref l, .int k t]) Q := Run.leaf fun h tk S => index_list_ints (s := Γ.at h tk) (S.isList hm) hi hlay hk (Post.mk (tk := tk + 1) S (q _))
noncomputable def ob : Option (Array UInt8) → Tok → Value
 | none, _ => .none
 | some b, t => .bytes b t
end
section
variable {w : World} {A : Around} {E : Value → Shared → Prop} {s : Shared} {Q : Value → Shared → Prop} {b : Array UInt8} {t : Tok}
theorem B2T : Gives (Builtin.«bytes.__eq__» ⟨[.bytes b t, .none], []⟩) (.val (Value.notImplemented)) := by
 refine .of_wp fun M A E s Q hq => ?_
 show wpAny M A (isInstance .none (.type "bytes") >>= fun r => _) _ E s
 refine wpAny_bind (wpAny_isInstance (T := "NoneType") (b := false) rfl (by rw [isSubtype_type]; kernel_rfl) ?_)
 refine wpAny_bind (wpAny_isInstance (T := "NoneType") (b := false) rfl (by rw [isSubtype_type]; kernel_rfl) ?_)
 refine bm_if_true rfl ?_
 exact wpAny_bind (wpAny_rule (wpAny_pure ⟨_, rfl, hq⟩))
theorem B2Q : Gives (Builtin.«bytes.__ne__» ⟨[.bytes b t, .none], []⟩) (.val (Value.notImplemented)) := by
 refine .of_wp fun M A E s Q hq => ?_
 show wpAny M A (isInstance .none (.type "bytes") >>= fun r => _) _ E s
 refine wpAny_bind (wpAny_isInstance (T := "NoneType") (b := false) rfl (by rw [isSubtype_type]; kernel_rfl) ?_)
 refine wpAny_bind (wpAny_isInstance (T := "NoneType") (b := false) rfl (by rw [isSubtype_type]; kernel_rfl) ?_)
 refine bm_if_true rfl ?_
 exact wpAny_bind (wpAny_rule (wpAny_pure ⟨_, rfl, hq⟩))
theorem B2S : Gives (Builtin.«NoneType.__eq__» ⟨[.none, .bytes b t], []⟩) (.val (Value.notImplemented)) :=
 .of_wp fun M A E s Q h => by obtain ⟨hp, g, d, tk, os⟩ := s; wp_walk; exact ⟨_, rfl, h⟩
theorem B2P : Gives (Builtin.«NoneType.__ne__» ⟨[.none, .bytes b t], []⟩) (.val (Value.notImplemented)) :=
 .of_wp fun M A E s Q h => by obtain ⟨hp, g, d, tk, os⟩ := s; wp_walk; exact ⟨_, rfl, h⟩
theorem B2p : isSubtype (.type "NoneType") (.type "bytes") = pure false := by rw [isSubtype_type]; kernel_rfl
theorem B2q : isSubtype (.type "bytes") (.type "NoneType") = pure false := by rw [isSubtype_type]; kernel_rfl
theorem A4K : Slot "bytes" (cmpInfo .Eq).2.2 "bytes.__eq__" :=
 .of (owner := "bytes") (n := "__eq__") (by rw [typeLookup_type, builtinLookup_eq_fast]; kernel_rfl) (by decide +kernel) (by decide +kernel) (by decide +kernel)
  (by first | exact .inl (by decide +kernel) | exact .inr (by decide +kernel)) (by rw [isSubtype_type]; kernel_rfl)
theorem A4J : Slot "bytes" (cmpInfo .NotEq).2.2 "bytes.__ne__" :=
 .of (owner := "bytes") (n := "__ne__") (by rw [typeLookup_type, builtinLookup_eq_fast]; kernel_rfl) (by decide +kernel) (by decide +kernel) (by decide +kernel)
  (by first | exact .inl (by decide +kernel) | exact .inr (by decide +kernel)) (by rw [isSubtype_type]; kernel_rfl)
theorem B9w (h : Q (.bool false) s) : wpAny (model pw w) A (compareOp .Eq (.bytes b t) .none) Q E s := by
 show wpAny _ A (richCompare .Eq _ _) Q E s
 exact EqNone.wpAny_richCompare_eq_decline (k := false) (fun s' => typeIs_bytes s' b t) (fun _ => rfl) (by decide) B2p FB.slot_bytes_eq F.slot_NoneType_eq_refl rfl
  (call_gives FB.slot_bytes_eq (typeIs_bytes s b t) FB.entry_bytes_eq (FB.args_bytes_eq_2 _ _) B2T
   ⟨rfl, call_gives F.slot_NoneType_eq_refl rfl F.entry_NoneType_eq (F.args_NoneType_eq_2 _ _) B2S ⟨rfl, h⟩⟩)
theorem B9v (h : Q (.bool false) s) : wpAny (model pw w) A (compareOp .Eq .none (.bytes b t)) Q E s := by
 show wpAny _ A (richCompare .Eq _ _) Q E s
 exact EqNone.wpAny_richCompare_eq_decline (k := false) (fun _ => rfl) (fun s' => typeIs_bytes s' b t) (by decide) B2q F.slot_NoneType_eq A4K rfl
  (call_gives F.slot_NoneType_eq rfl F.entry_NoneType_eq (F.args_NoneType_eq_2 _ _) B2S
   ⟨rfl, call_gives A4K (typeIs_bytes s b t) FB.entry_bytes_eq (FB.args_bytes_eq_2 _ _) B2T ⟨rfl, h⟩⟩)
theorem B9j (h : Q (.bool true) s) : wpAny (model pw w) A (compareOp .NotEq (.bytes b t) .none) Q E s := by
 show wpAny _ A (richCompare .NotEq _ _) Q E s
 exact EqNone.wpAny_richCompare_ne_decline (k := false) (fun s' => typeIs_bytes s' b t) (fun _ => rfl) (by decide) B2p FB.slot_bytes_ne F.slot_NoneType_ne_refl rfl
  (call_gives FB.slot_bytes_ne (typeIs_bytes s b t) FB.entry_bytes_ne (FB.args_bytes_ne_2 _ _) B2Q
   ⟨rfl, call_gives F.slot_NoneType_ne_refl rfl F.entry_NoneType_ne (F.args_NoneType_ne_2 _ _) B2P ⟨rfl, h⟩⟩)
theorem B9i (h : Q (.bool true) s) : wpAny (model pw w) A (compareOp .NotEq .none (.bytes b t)) Q E s := by
 show wpAny _ A (richCompare .NotEq _ _) Q E s
 exact EqNone.wpAny_richCompare_ne_decline (k := false) (fun _ => rfl) (fun s' => typeIs_bytes s' b t) (by decide) B2q F.slot_NoneType_ne A4J rfl
  (call_gives F.slot_NoneType_ne rfl F.entry_NoneType_ne (F.args_NoneType_ne_2 _ _) B2P
   ⟨rfl, call_gives A4J (typeIs_bytes s b t) FB.entry_bytes_ne (FB.args_bytes_ne_2 _ _) B2Q ⟨rfl, h⟩⟩)
theorem B9h (h : Q (.bool false) s) : wpAny (model pw w) A (compareOp .NotEq .none .none) Q E s := by
 show wpAny _ A (richCompare .NotEq _ _) Q E s
 exact richCompare_gives (T := "NoneType") rfl rfl F.slot_NoneType_ne F.entry_NoneType_ne (F.args_NoneType_ne_2 _ _) EqNone.NoneType___ne___none_none_0 nofun h
end
section
variable {Γ : Cx} {vs : A0e} {led led' : Led} {h h' : Heap} {tk : Nat} {Q : Value → A0e → Led → Prop} {QB : Bool → A0e → Led → Prop}
theorem B7D {a b : Option (Array UInt8)} {t u : Tok} (q : Q (.bool (decide (a = b))) vs led) : Run Γ vs led (compareOp .Eq (ob a t) (ob b u)) Q := by
 cases a <;> cases b
 ·exact Run.leaf fun h tk S => EqNone.eq_none_none (Post.mk S q)
 ·exact Run.leaf fun h tk S => B9v (Post.mk S q)
 ·exact Run.leaf fun h tk S => B9w (Post.mk S q)
 ·refine B7E ?_
  simpa using q
theorem B9G {a b : Option (Array UInt8)} {t u : Tok} (q : Q (.bool (decide (a ≠ b))) vs led) : Run Γ vs led (compareOp .NotEq (ob a t) (ob b u)) Q := by
 cases a <;> cases b
 ·exact Run.leaf fun h tk S => B9h (Post.mk S q)
 ·exact Run.leaf fun h tk S => B9i (Post.mk S q)
 ·exact Run.leaf fun h tk S => B9j (Post.mk S q)
 ·refine B9H ?_
  simpa using q
theorem A2z {l : Addr} {xs : List Value} {ns : List Int} (hm : (l, LObj.list xs) ∈ led) (hi : IntsAre xs ns) (hr : ∀ n ∈ ns, 0 ≤ n ∧ n < 256) (hz : xs.length ≤ 1000000) (q : ∀ t, Q (.bytes (byteArr ns) t) vs led) :
  Run Γ vs led (call (.type "bytes") [.ref l]) Q := Run.leaf fun h tk S =>
 call_bytes_ints (s := Γ.at h tk) (S.isList hm) hi hr (by rw [sizeLine_eq]; omega) rfl fun h' t k hk => Post.mk (tk := k) (S.grown hk) (q t)
variable {env : Env}
noncomputable def AllA (P : Addr → Prop) : Prop := ∀ a, P a
theorem AllA.mk {P : Addr → Prop} (h : ∀ a, P a) : AllA P := h
theorem A7e (q : Q .none vs led) : Run Γ vs led (valueOrNone (evalOpt none env)) Q := Run.pure q
theorem A7g {lo hi : Option Expr} {pos : Pos} (H : Run Γ vs led (valueOrNone (evalOpt lo env)) fun l vs led => Run Γ vs led (valueOrNone (evalOpt hi env)) fun u vs led => AllA fun a => Q (.ref a) vs ((a, .raw { cls := .type "slice", data := .fields #[l, u, .none] }) :: led)) :
  Run Γ vs led (eval (.Slice lo hi none pos) env) Q := by
 rw [arm_eval_Slice]
 refine Run.thn H fun l vs led q => Run.thn (Run.hold q) fun u vs led q => ?_
 refine Run.thn (P := fun v vs' led' => v = .none ∧ vs' = vs ∧ led' = led) (Run.hold (A7e ⟨rfl, rfl, rfl⟩)) fun v vs' led' ⟨e1, e2, e3⟩ => Run.leaf fun h tk S => ?_
 subst e1 e2 e3
 exact wpAny_newObj_type (Post.mk (tk := tk) (S.alloc (lo := .raw { cls := .type "slice", data := .fields #[l, u, .none] }) rfl rfl) (q _)) (by size_fits)
theorem A6a {e : Expr} (H : Run Γ vs led (eval e env) Q) : Run Γ vs led (valueOrNone (evalOpt (some e) env)) Q := H
theorem A6G {value slice : Expr} {a : Addr} {b : Array UInt8} {t : Tok} {vl vu : Value} {lo hi : Option Int} (ha : (a, LObj.raw { cls := .type "slice", data := .fields #[vl, vu, .none] }) ∈ led) (pl : IsPart vl lo) (pu : IsPart vu hi) (hz : b.size ≤ 1000000)
  (q : ∀ t, Q (.bytes (KBy.picked b lo hi) t) vs led)
  (hs : subscripted slice false (.bytes b t) (.ref a) = operate [.ref a, .bytes b t] (getItem (.bytes b t) (.ref a))) (ht : ∀ r, letTemporaryGo value (.bytes b t) r = pure ()) : Run Γ vs led (subscriptTail value slice (.bytes b t) (.ref a)) Q := Run.leaf fun h tk S => by
 obtain ⟨o, ho, rfl, _⟩ := S.get ha
 exact tail_of_ItemOn (s := Γ.at h tk) ⟨"bytes", _, FB.slot_bytes_getitem.lookup, typeIs_bytes _ _ _, getItem_meets (typeIs_bytes _ _ _) (by decide) FB.slot_bytes_getitem FB.entry_bytes_getitem (FB.args_bytes_getitem_2 _ _) (KBc.meets_slice2 b t _ pl pu)
  ⟨⟨_, ho, rfl, rfl⟩, Nat.le_trans (KBc.size_picked_le b lo hi) (by rw [sizeLine_eq]; omega), fun t' k => Post.mk (tk := k) S (q t')⟩⟩ hs ht
end
end Mine
namespace Mine
section
variable {Γ : Cx} {vs : A0e} {led led' : Led} {h h' : Heap} {tk : Nat} {Q : Value → A0e → Led → Prop} {QB : Bool → A0e → Led → Prop} {env : Env}
theorem St.isDict {d : Addr} {w : World} {kvs : List (List UInt8 × Value)} (S : St Γ h vs led) (hm : (d, LObj.bdict w kvs) ∈ led) : h.DictOf (bytesKind pw w) d kvs := by
 obtain ⟨o, ho, hi, _⟩ := S.get hm
 exact Heap.dictOf_iff.mpr ⟨o, ho, hi⟩
noncomputable def Ok (d : Addr) : Prop := (d == sysModules) = false
theorem B1e {pos : Pos} (q : ∀ a, Ok a → Q (.ref a) vs ((a, .bdict Γ.w []) :: led)) : Run Γ vs led (eval (.Dict [] [] pos) env) Q := Run.leaf fun h tk S => by
 have hs : 3 < h.objs.size := by
  obtain ⟨o, ho⟩ : ∃ o, (kf Γ.w.params).lookup 3 = some o := ⟨_, rfl⟩
  exact Heap.lt_size (S.kin _ _ ho)
 refine wpAny_Dict_empty (s := Γ.at h tk) (Post.mk (tk := tk) (S.alloc (lo := .bdict Γ.w []) (o := { cls := .type "dict", data := .dict #[] }) ⟨#[], 0, ⟨rfl, rfl, rfl⟩, rfl, fun e he => by simp at he, ?_, List.nodup_nil⟩ rfl) (q _ ?_))
 ·first | exact .nil | trivial | simp [PySem.Pairs]
 ·show (h.objs.size == 1) = false
  simp
  intro e
  rw [e] at hs
  exact absurd hs (by decide)
noncomputable def isK (w : World) (b : Array UInt8) (t : Tok) : (bytesKind pw w).is b.toList (.bytes b t) = true := by
 have := bytesKind_is pw w b.toList t
 simpa using this
theorem B9D {d : Addr} {kvs : List (List UInt8 × Value)} {b : Array UInt8} {t : Tok} {v : Value} {Q : Unit → A0e → Led → Prop} (hz : kvs.length ≤ 1000) (U : Upd1 d (.bdict Γ.w kvs) (.bdict Γ.w (PySem.stored kvs b.toList v)) led led') (q : Q () vs led') :
  Run Γ vs led (setItem (.ref d) (.bytes b t) v) Q := Run.leaf fun h tk S => by
 refine wpAny_setItem_pairs (s := Γ.at h tk) (isK Γ.w b t) (S.isDict U.mem) (fun h' hD hs => ?_) (by rw [sizeLine_eq]; omega)
 obtain ⟨o, ho, hd⟩ := Heap.dictOf_iff.mp hD
 exact Post.mk (tk := tk + 1) (S.upd U hs ho hd) q
theorem d_in {d : Addr} {kvs : List (List UInt8 × Value)} {b : Array UInt8} {t : Tok} (hm : (d, LObj.bdict Γ.w kvs) ∈ led) (lo : Ok d) (q : Q (.bool (PySem.valueAt kvs b.toList).isSome) vs led) : Run Γ vs led (compareOp .In (.bytes b t) (.ref d)) Q := Run.leaf fun h tk S =>
 wpAny_in_of (s := Γ.at h tk) (isK Γ.w b t) lo (S.isDict hm).mapOf (Post.mk (tk := tk + 1) S q)
theorem B5B {pl : Sem Bool} {Q : Value × List Value → A0e → Led → Prop} {d : Addr} {kvs : List (List UInt8 × Value)} (hm : (d, LObj.bdict Γ.w kvs) ∈ led) (q : Q (.builtin "dict.get", [.ref d]) vs led) : Run Γ vs led (getMethod (.ref d) "get" pl) Q := Run.leaf fun h tk S => by
 obtain ⟨o, es, ep, ho, hx, _⟩ := S.isDict hm
 exact getMethod_builtin (s := Γ.at h tk) (S.isDict hm).typeIs PySem.F.plainAttrs_dict PySem.F.slot_dict_get PySem.F.type_dict_get (fun a e => by cases e; exact ⟨_, ho, hx.2.1⟩) (Post.mk S q)
theorem B9E {d : Addr} {kvs : List (List UInt8 × Value)} {b : Array UInt8} {t : Tok} (hm : (d, LObj.bdict Γ.w kvs) ∈ led) (lo : Ok d) (q : Q ((PySem.valueAt kvs b.toList).getD .none) vs led) : Run Γ vs led (call (.builtin "dict.get") [.ref d, .bytes b t]) Q := Run.leaf fun h tk S =>
 call_meetsIn (s := Γ.at h tk) PySem.F.slot_dict_get (S.isDict hm).typeIs PySem.F.entry_dict_get (PySem.F.args_dict_get_2 _ _) (meets_dict_get (bytesKind pw Γ.w) d (isK Γ.w b t) lo) ⟨_, (S.isDict hm).mapOf, Post.mk (tk := tk + 1) S q⟩
theorem B9F {d : Addr} {kvs : List (List UInt8 × Value)} {b : Array UInt8} {t : Tok} {Q : Unit → A0e → Led → Prop} (hz : kvs.length ≤ 1000) (hl : (PySem.valueAt kvs b.toList).isSome = true) (U : Upd1 d (.bdict Γ.w kvs) (.bdict Γ.w (PySem.without kvs b.toList)) led led') (q : Q () vs led') :
  Run Γ vs led (delItem (.ref d) (.bytes b t)) Q := Run.leaf fun h tk S => by
 have hD := S.isDict U.mem
 unfold delItem
 refine wpAny_holding (wpAny_bind (wpAny_sequenceKey (s := Γ.at h tk) hD.typeIs (by decide) ?_))
 refine wpAny_bind (wpAny_callSpecial?_slot (s := Γ.at h tk) (name := Str.ofString "__delitem__") hD.typeIs PySem.F.slot_dict_delitem
  (call_meetsIn PySem.F.slot_dict_delitem hD.typeIs PySem.F.entry_dict_delitem (PySem.F.args_dict_delitem_2 _ _) (meets_dict_delitem_pairs (bytesKind pw Γ.w) d (isK Γ.w b t)) ⟨kvs, hD, by rw [sizeLine_eq]; omega, hl, fun h' hD' hs => ?_⟩))
 obtain ⟨o, ho, hd⟩ := Heap.dictOf_iff.mp hD'
 exact wpAny_pure (Post.mk (tk := tk + 1) (S.upd U hs ho hd) q)
end
end Mine
namespace Mine
open PyProof.Rows (pairsOf pairsOf_toList pairsOf_size Keyed mem_zip_self KK SortedToK SortSt arrOf seqObj sortedHeap sortedHeap_old sortedHeap_at firstOfTuple' keyKind' keyKind'_eq oneTypeOnly'_eq oneType' oneLt' oneLt'_eq)
noncomputable def A3m (b : List UInt8) : List Nat := b.map (·.toNat)
theorem A5E : ∀ a b : List UInt8, Builtin.Bytes.order a b = .lt ↔ A3m a < A3m b
 | [], [] => by simp [Builtin.Bytes.order, A3m]
 | [], _ :: _ => by simp [Builtin.Bytes.order, A3m]
 | _ :: _, [] => by simp [Builtin.Bytes.order, A3m]
 | x :: a, y :: b => by
  have ih := A5E a b
  show Builtin.Bytes.order (x :: a) (y :: b) = .lt ↔ x.toNat :: A3m a < y.toNat :: A3m b
  rw [List.cons_lt_cons_iff]
  unfold Builtin.Bytes.order
  by_cases h1 : x < y
  ·rw [if_pos h1]
   have : x.toNat < y.toNat := h1
   simp [this]
  ·rw [if_neg h1]
   have h1' : ¬ x.toNat < y.toNat := h1
   by_cases h2 : x > y
   ·rw [if_pos h2]
    have h2' : y.toNat < x.toNat := h2
    have : ¬ (x.toNat = y.toNat) := by omega
    simp only [h1', this, false_and, or_self, reduceCtorEq]
   ·rw [if_neg h2]
    have h2' : ¬ y.toNat < x.toNat := h2
    have : x.toNat = y.toNat := by omega
    rw [ih, this]
    simp
theorem A8H (a b : List UInt8) : (Builtin.Bytes.order a b == .lt) = decide (A3m a < A3m b) := by
 by_cases h : A3m a < A3m b
 ·rw [decide_eq_true h, (A5E a b).mpr h]; rfl
 ·rw [decide_eq_false h, beq_eq_false_iff_ne]
  exact fun e => h ((A5E a b).mp e)
theorem A9S (a b : List UInt8) : (Builtin.Bytes.order a b != .lt) = decide (¬ A3m a < A3m b) := by
 have := A8H a b
 rw [bne, this]
 by_cases h : A3m a < A3m b
 ·rw [decide_eq_true h, decide_eq_false (by simpa using h)]; rfl
 ·rw [decide_eq_false h, decide_eq_true h]; rfl
section
theorem B1r : Slot "bytes" (cmpInfo .Lt).2.1 "bytes.__lt__" :=
 .of (owner := "bytes") (n := "__lt__") (by rw [typeLookup_type, builtinLookup_eq_fast]; kernel_rfl) (by decide +kernel) (by decide +kernel) (by decide +kernel)
  (by first | exact .inl (by decide +kernel) | exact .inr (by decide +kernel)) (by rw [isSubtype_type]; kernel_rfl)
theorem A7l : Slot "bytes" "__lt__" "bytes.__lt__" :=
 .of (owner := "bytes") (n := "__lt__") (by rw [typeLookup_type, builtinLookup_eq_fast]; kernel_rfl) (by decide +kernel) (by decide +kernel) (by decide +kernel)
  (by first | exact .inl (by decide +kernel) | exact .inr (by decide +kernel)) (by rw [isSubtype_type]; kernel_rfl)
theorem A7J : entryFor table "bytes.__lt__" = some Builtin.«bytes.__lt__» := entryFor_of_tree (by kernel_rfl)
theorem A8Y (a b : Value) : argsOk "bytes.__lt__" ⟨[a, b], []⟩ := by unfold argsOk; kernel_rfl
theorem B1s : Slot "bytes" (cmpInfo .GtE).2.1 "bytes.__ge__" :=
 .of (owner := "bytes") (n := "__ge__") (by rw [typeLookup_type, builtinLookup_eq_fast]; kernel_rfl) (by decide +kernel) (by decide +kernel) (by decide +kernel)
  (by first | exact .inl (by decide +kernel) | exact .inr (by decide +kernel)) (by rw [isSubtype_type]; kernel_rfl)
theorem B0z : entryFor table "bytes.__ge__" = some Builtin.«bytes.__ge__» := entryFor_of_tree (by kernel_rfl)
theorem B2c (a b : Value) : argsOk "bytes.__ge__" ⟨[a, b], []⟩ := by unfold argsOk; kernel_rfl
variable {b c : Array UInt8} {t u : Tok}
theorem B6K : Gives (Builtin.«bytes.__lt__» ⟨[.bytes b t, .bytes c u], []⟩) (.val (.bool (decide (A3m b.toList < A3m c.toList)))) := by
 refine .of_wp fun M A E s Q hq => ?_
 show wpAny M A (isInstance (.bytes c u) (.type "bytes") >>= fun r => _) _ E s
 refine wpAny_bind (wpAny_isInstance (typeIs_bytes s c u) F.sub_bytes_bytes ?_)
 exact wpAny_pure ⟨_, rfl, by rw [← A8H] at hq; exact hq⟩
theorem B9t : Gives (Builtin.«bytes.__ge__» ⟨[.bytes b t, .bytes c u], []⟩) (.val (.bool (decide (¬ A3m b.toList < A3m c.toList)))) := by
 refine .of_wp fun M A E s Q hq => ?_
 show wpAny M A (isInstance (.bytes c u) (.type "bytes") >>= fun r => _) _ E s
 refine wpAny_bind (wpAny_isInstance (typeIs_bytes s c u) F.sub_bytes_bytes ?_)
 exact wpAny_pure ⟨_, rfl, by rw [← A9S] at hq; exact hq⟩
end
@[reducible] noncomputable def A6A : PyProof.Rows.KeyKind where
 α := List Nat
 blt a b := decide (a < b)
 irrefl a := by simpa using List.lt_irrefl a
 trans a b c h1 h2 := by simp only [decide_eq_true_eq] at *; exact List.lt_trans h1 h2
 negTrans a b c h := by
  simp only [decide_eq_true_eq] at *
  by_cases hab : a < b
  ·exact .inl hab
  ·exact .inr (List.lt_of_le_of_lt (List.not_lt.mp hab) h)
 total a b h1 h2 := by simp only [decide_eq_false_iff_not] at *; exact List.le_antisymm (List.not_lt.mp h2) (List.not_lt.mp h1)
 keyOf v := match v with | .bytes x _ => some (A3m x.toList) | _ => none
 dflt := []
section
variable {prog : Program} {w : World} {A : Around} {E : Value → Shared → Prop} {s : Shared}
theorem B1y {a b : Array UInt8} {t u : Tok} {Q : Bool → Shared → Prop} (h : Q (decide (A3m a.toList < A3m b.toList)) s) : wpAny (model prog w) A (oneLt' true (.bytes a t) (.bytes b u)) Q E s := by
 rw [oneLt'_eq]
 simp only [if_true]
 refine wpAny_bind (wpAny_cRoomFor_byValue rfl ?_)
 refine wpAny_bind (wpAny_callSpecialIfBound?_slot (typeIs_bytes s a t) A7l (call_gives A7l (typeIs_bytes s a t) A7J (A8Y _ _) B6K ?_))
 exact wpAny_truthy_bool h
end
theorem A7O : A6A.OneLt := by
 intro prog w A E s x y a b Q ha hb h
 cases x <;> simp only [A6A, reduceCtorEq, Option.some.injEq] at ha
 cases y <;> simp only [A6A, reduceCtorEq, Option.some.injEq] at hb
 cases ha; cases hb
 exact B1y h
inductive BysAre : List Value → List (List UInt8) → Prop
 | nil : BysAre [] []
 | cons {k : List UInt8} {t : Tok} {vs ks} : BysAre vs ks → BysAre (.bytes k.toArray t :: vs) (k :: ks)
noncomputable def B1Z : Value → List UInt8
 | .bytes x _ => x.toList
 | _ => []
theorem BysAre.all : ∀ {vs : List Value} {ks : List (List UInt8)}, BysAre vs ks → ∀ v, v ∈ vs → ∃ x t, v = .bytes x t
 | _, _, .nil, v, hv => by simp at hv
 | _, _, .cons h, v, hv => by
  rcases List.mem_cons.mp hv with rfl | hv
  ·exact ⟨_, _, rfl⟩
  ·exact h.all v hv
theorem BysAre.bys : ∀ {vs : List Value} {ks : List (List UInt8)}, BysAre vs ks → vs.map B1Z = ks
 | _, _, .nil => rfl
 | _, _, .cons h => by rw [List.map_cons, h.bys]; rfl
theorem A6z : ∀ (vs : List Value), (∀ v, v ∈ vs → ∃ x t, v = .bytes x t) → BysAre vs (vs.map B1Z)
 | [], _ => .nil
 | v :: vs, h => by
  obtain ⟨x, t, rfl⟩ := h v (List.mem_cons_self ..)
  exact .cons (k := x.toList) (A6z vs fun u hu => h u (List.mem_cons_of_mem _ hu))
theorem BysAre.keysOf {vs : List Value} {ks : List (List UInt8)} (hS : BysAre vs ks) : PyProof.Rows.KeysOf A6A (pairsOf vs) := by
 intro p hp
 rw [pairsOf_toList] at hp
 obtain ⟨x, t, e⟩ := hS.all _ (mem_zip_self hp).2
 exact ⟨A3m x.toList, by rw [e]⟩
theorem B8n {xs : Array Keyed} {i : Nat} (hi : i < xs.size) {x : Array UInt8} {t : Tok} {q : Value} (hx : xs[i] = (.bytes x t, q)) : KK A6A xs i = A3m x.toList := by
 unfold KK; rw [getElem?_pos xs i hi, hx]; rfl
theorem A4O : ∀ {vs : List Value} {ks : List (List UInt8)}, BysAre vs ks → vs.mapM firstOfTuple' = pure (vs.map fun _ => none)
 | _, _, .nil => by simp
 | _, _, .cons h => by rw [List.mapM_cons, show firstOfTuple' (.bytes _ _) = pure none from rfl, A4O h]; simp
theorem A4t : ∀ {vs : List Value} {ks : List (List UInt8)}, BysAre vs ks → vs.mapM typeOf = pure (vs.map fun _ => Value.type "bytes")
 | _, _, .nil => by simp
 | _, _, .cons h => by
  rw [List.mapM_cons, A4t h]
  show (pure (Value.type "bytes") >>= fun b => pure _ >>= fun bs => pure (b :: bs)) = _
  simp
theorem A9r {v₁ v₂ : Value} {vs : List Value} {ks : List (List UInt8)} (hS : BysAre (v₁ :: v₂ :: vs) ks) : keyKind' (v₁ :: v₂ :: vs).toArray = pure oneType' := by
 rw [keyKind'_eq, List.mapM_toArray, A4O hS]
 simp only [map_pure, pure_bind]
 rw [if_neg (by simp), if_neg (by simp)]
 rw [oneTypeOnly'_eq, List.mapM_toArray, A4t hS]
 simp only [map_pure, pure_bind]
 have hall : ((List.map (fun _ => Value.type "bytes") (v₁ :: v₂ :: vs)).toArray.all fun x => x == Value.type "bytes") = true := by
  simp only [List.all_toArray, List.all_map, List.all_eq_true]
  intro _ _
  rfl
 have h0 : (List.map (fun _ => Value.type "bytes") (v₁ :: v₂ :: vs)).toArray[0]? = some (Value.type "bytes") := by simp
 rw [h0]
 simp only [hall, if_true, pure_bind, Option.isSome_some]
theorem A9e {vs : List Value} {ks : List (List UInt8)} (hS : BysAre vs ks) {xs : Array Keyed} (hp : xs.Perm (pairsOf vs)) (hs : SortedToK A6A xs (pairsOf vs).size) :
  ∃ ks', BysAre (xs.map (·.2)).toList ks' ∧ ks'.Perm ks ∧ ks'.Pairwise (fun a b => ¬ A3m b < A3m a) := by
 have hl : xs.toList.Perm (vs.zip vs) := by rw [← pairsOf_toList]; exact Array.perm_iff_toList_perm.mp hp
 have hmem : ∀ p, p ∈ xs.toList → p.1 = p.2 ∧ p.1 ∈ vs := fun p hp' => mem_zip_self (hl.mem_iff.mp hp')
 refine ⟨xs.toList.map (fun p => B1Z p.1), ?_, ?_, ?_⟩
 ·have e : (xs.map (·.2)).toList = xs.toList.map (·.1) := by
   rw [Array.toList_map]; exact List.map_congr_left fun p hp' => (hmem p hp').1.symm
  rw [e]
  have h1 := A6z (xs.toList.map (·.1)) (by
   intro v hv
   obtain ⟨p, hp', rfl⟩ := List.mem_map.mp hv
   exact hS.all _ (hmem p hp').2)
  rwa [List.map_map] at h1
 ·have h1 := hl.map (fun p => B1Z p.1)
  have e2 : (vs.zip vs).map (fun p => B1Z p.1) = ks := by
   have : (vs.zip vs).map (fun p => B1Z p.1) = ((vs.zip vs).map Prod.fst).map B1Z := by rw [List.map_map]; rfl
   rw [this, List.map_fst_zip (Nat.le_refl _), hS.bys]
  rwa [e2] at h1
 ·rw [List.pairwise_iff_getElem]
  intro i j hi hj hij
  have hi' : i < xs.size := by simpa using hi
  have hj' : j < xs.size := by simpa using hj
  have h1 := hs i j (Nat.le_of_lt hij) (by rw [← hp.size_eq]; exact hj')
  obtain ⟨x, t, ex⟩ := hS.all _ (hmem xs[i] (by simp)).2
  obtain ⟨y, u, ey⟩ := hS.all _ (hmem xs[j] (by simp)).2
  rw [B8n hi' (x := x) (t := t) (q := xs[i].2) (Prod.ext ex rfl), B8n hj' (x := y) (t := u) (q := xs[j].2) (Prod.ext ey rfl)] at h1
  change decide (A3m y.toList < A3m x.toList) = false at h1
  simp only [List.getElem_map, Array.getElem_toList]
  rw [show B1Z xs[i].1 = x.toList by rw [ex]; rfl, show B1Z xs[j].1 = y.toList by rw [ey]; rfl]
  simpa using h1
section
variable {Γ : Cx} {vs : A0e} {led led' : Led} {h h' : Heap} {tk : Nat} {Q : Value → A0e → Led → Prop} {QB : Bool → A0e → Led → Prop} {env : Env}
theorem B4x {b c : Array UInt8} {t u : Tok} (q : Q (.bool (decide (A3m b.toList < A3m c.toList))) vs led) : Run Γ vs led (compareOp .Lt (.bytes b t) (.bytes c u)) Q := Run.leaf fun h tk S =>
 compareOp_gives (s := Γ.at h tk) (op := .Lt) (typeIs_bytes _ b t) (typeIs_bytes _ c u) B1r A7J (A8Y _ _) B6K (fun e => nomatch e) (Post.mk S q)
theorem B7C {b c : Array UInt8} {t u : Tok} (q : Q (.bool (decide (¬ A3m b.toList < A3m c.toList))) vs led) : Run Γ vs led (compareOp .GtE (.bytes b t) (.bytes c u)) Q := Run.leaf fun h tk S =>
 compareOp_gives (s := Γ.at h tk) (op := .GtE) (typeIs_bytes _ b t) (typeIs_bytes _ c u) B1s B0z (B2c _ _) B9t (fun e => nomatch e) (Post.mk S q)
theorem A8u {w : World} {kvs : List (List UInt8 × Value)} {xs : List Value} (hl : xs.length = kvs.length) (hk : ∀ (j : Nat) (v : Value), xs[j]? = some v → ∃ k x, kvs[j]? = some (k, x) ∧ (bytesKind pw w).is k v = true) : BysAre xs (kvs.map (·.1)) := by
 induction xs generalizing kvs with
 | nil => cases kvs with
  | nil => exact .nil
  | cons p r => simp at hl
 | cons v xs ih => cases kvs with
  | nil => simp at hl
  | cons p r =>
   obtain ⟨k, x, h1, h2⟩ := hk 0 v rfl
   cases h1
   obtain ⟨t, rfl⟩ := isBytes_shape h2
   exact .cons (ih (by simpa using hl) fun j v e => hk (j + 1) v e)
theorem A8d {d : Addr} {kvs : List (List UInt8 × Value)} (hm : (d, LObj.bdict Γ.w kvs) ∈ led) (lo : Ok d) (h64 : kvs.length < 64)
  (q : ∀ D xs ks, BysAre xs ks → ks.Perm (kvs.map (·.1)) → ks.Pairwise (fun a b => ¬ A3m b < A3m a) → Q (.ref D) vs ((D, .list xs) :: led)) : Run Γ vs led (call (.builtin "sorted") [.ref d]) Q := Run.leaf fun h tk S => by
 obtain ⟨news, R, N⟩ := S.N
 obtain ⟨ep, hat⟩ := (S.isDict hm).dictAt
 refine kdu_sorted (s := Γ.at h tk) (kdl_dict (knd := bytesKind pw Γ.w) (kvs := kvs) (ep := ep) lo) rfl S.F N hat (by rw [sizeLine_eq]; omega) fun D h' tk' xs F' N' hD hlen hP => ?_
 have hB := A8u hlen hP
 have ho : h'.get? D = some (seqObj "list" xs.toArray 0) := (N' _ (.head _)).1
 have hDn := (N' _ (.head _)).2
 refine wpAny_call_entry (s := Γ.at h' tk') PyProof.Rows.slot_list_sort ⟨_, ho, rfl⟩ PyProof.Rows.entry_list_sort (PyProof.Rows.list_sort_treeK (s := Γ.at h' tk') A7O ho hB.keysOf (fun v₁ v₂ rest e => A9r (by rw [← e]; exact hB)) (by omega) fun st' hp hs => ⟨_, rfl, ?_⟩) (PyProof.Rows.args_list_sort _)
 obtain ⟨ks', b1, b2, b3⟩ := A9e hB hp hs
 have hold : ∀ b o, b ≠ D → h'.get? b = some o → (sortedHeap h' D xs ((arrOf st').map (·.2))).get? b = some o := fun b o hb e => (sortedHeap_old hb (Heap.lt_size e)).trans e
 obtain ⟨e, hnew⟩ := sortedHeap_at (out := (arrOf st').map (·.2)) ho
 have hne : Γ.L ≠ D := fun e => hDn.1 e.symm
 have S' : St Γ (sortedHeap h' D xs ((arrOf st').map (·.2))) vs ((D, .list ((arrOf st').map (·.2)).toList) :: led) := by
  refine { B := S.B, F := ⟨?_, fun b o hb => hold b o (fun x => by rw [x, hDn.2] at hb; cases hb) (F'.keep b o hb), F'.above⟩, X := S.X, T := S.T, hk := S.hk, N := ⟨(D, seqObj "list" ((arrOf st').map (·.2)) e) :: news, .cons ⟨e, by rw [Array.toArray_toList]⟩ R, fun p hp => ?_⟩, nd := ?_, nv := S.nv, hl := S.hl, hg := S.hg }
  ·obtain ⟨oL, a1, a2, hL, a3⟩ := F'.ns
   exact ⟨oL, a1, a2, hold _ _ hne hL, a3⟩
  ·rcases List.mem_cons.mp hp with rfl | hp'
   ·exact ⟨hnew, hDn⟩
   ·have z := N' p (.tail _ hp')
    exact ⟨hold _ _ (Nat.ne_of_lt (hD p hp')) z.1, z.2⟩
  ·rw [List.map_cons, List.nodup_cons]
   refine ⟨fun hm' => ?_, S.nd⟩
   rw [← R.keys] at hm'
   obtain ⟨p, hp', e'⟩ := List.mem_map.mp hm'
   exact absurd e' (Nat.ne_of_lt (hD p hp'))
 exact Post.mk S' (q D _ ks' b1 (by simpa using b2) b3)
end
end Mine
namespace Mine
section
variable {nd : Bool} {w : World} {A : Around} {C : Addr} {R : Result → Shared → Prop} {h : Heap} {g : Array GenState} {d : Drawn} {t : Nat} {os : OsState}
theorem A9w {rest : List Value} {init : Value} (Y : Makes (model pw w) h C) (hi : Looks (model pw w) h (typeLookup (.ref C) "__init__") (some init))
  (hb : ∀ self, Looks (model pw w) h (bindSpecial init self) (init, [self])) (hne : (some init != some (Value.builtin "object.__init__")) = true)
  (hq : A3M nd (model pw w) (A.under (.builtin "type.__call__" ⟨.ref C :: rest, []⟩)) (.call init ⟨.ref (h.objs.size + 1) :: rest, []⟩) (InitBack (h.objs.size + 1) R) ⟨(h.push emptyDict).push (instObj C h.objs.size), g, d, t, os⟩) :
  A3M nd (model pw w) A (.call (.ref C) ⟨rest, []⟩) R ⟨h, g, d, t, os⟩ := by
 have Y' := Y
 obtain ⟨⟨oc, od, cd, sl, hC, e1, e2, e4⟩, made, base, self, top, call, typ⟩ := Y
 refine A1c rfl ?_
 show wpM nd _ _ (load C >>= _) _ _ _
 refine A0f (A0v (wpAny_load hC ?_))
 show wpM nd _ _ (callAny.viaDunder (.ref C) _) _ _ _
 unfold callAny.viaDunder
 refine A0f (A0v (call.at ?_))
 dsimp only
 rw [tc_bind]
 refine A0f (A0v (wpAny_pure (A0f (A0v (wpAny_pure ?_)))))
 refine A0v (wpAny_pure (a := Fin.again (.call (.builtin "type.__call__") ⟨.ref C :: rest, []⟩)) (And.intro rfl ?_))
 refine A1c rfl ?_
 show wpM nd _ A.in1 (do checkBuiltinCall "type.__call__" ⟨.ref C :: rest, []⟩; again (.builtin "type.__call__" ⟨.ref C :: rest, []⟩)) _ _ _
 refine A0f (A0v (check_slot tc_kind tc_split typ (tc_args _ _ _) ?_))
 have hd' : A7x (.builtin "type.__call__" ⟨.ref C :: rest, []⟩) = false := by
  show Builtin.Bytes.decodersThatHold.contains "type.__call__" = false
  decide +kernel
 refine A0v (wpAny_pure (And.intro (Code.quiet_builtin _ (by decide +kernel)) (A1c hd' ?_)))
 rw [A5T (w := w) F.entry_type_call]
 unfold Builtin.«type.__call__»
 dsimp only
 have hm : Looks (model pw w) h (mroOf (.ref C)) cd.mro := ((Looks.ld (part := none) hC).andThen .now).andThen .now
 have b1 : (Value.ref C == Value.type "type") = false := rfl
 simp only [b1, Bool.false_eq_true, if_false]
 refine A0f (A0v (hm.at ?_))
 simp only [e4, Bool.false_eq_true, if_false]
 refine A0f (A0v (made.at ?_))
 dsimp only
 refine A0f (A0v (wpAny_pure (A0f (A2h (A1E (A8U (new_K Y' hi (.inl hne) ?_)))))))
 have k : ∀ b o, h.get? b = some o → ((h.push emptyDict).push (instObj C h.objs.size)).get? b = some o := fun b o e => Heap.get?_push_of_some _ (Heap.get?_push_of_some _ e)
 have hx : ((h.push emptyDict).push (instObj C h.objs.size)).get? (h.objs.size + 1) = some (instObj C h.objs.size) := by heap_get
 have t1 : Looks (model pw w) ((h.push emptyDict).push (instObj C h.objs.size)) (typeOf (.ref (h.objs.size + 1))) (.ref C) := (Looks.ld hx).andThen .now
 have s1 := self.keeps k
 have i1 := hi.keeps k
 have b1 := (hb (.ref (h.objs.size + 1))).keeps k
 dsimp only
 unfold isInstance callSpecial? specialOf
 refine A0f (A0v (wpAny_bind (t1.at (s1.at ?_))))
 simp only [Bool.not_true, Bool.false_eq_true, if_false]
 refine A0f (A2h (A0f (A0v (wpAny_bind (t1.at (i1.at ?_))))))
 dsimp only
 refine A2h (A0f (A0v (b1.at ?_)))
 dsimp only
 refine A0f (A1E (A9v hq fun r s' z => ?_))
 rcases r with e | (v | _ | _ | _) <;> first | exact z | exact z.elim | skip
 obtain ⟨rfl, z⟩ := z
 exact A0v (wpAny_pure (A0v (wpAny_pure z)))
end
section
variable {Γ : Cx} {vs : A0e} {led : Led} {h : Heap} {tk : Nat}
theorem B4V {C i : Addr} {FN : List Str} {name qual : Str} {params : Arguments} {body : List Stmt} {scope : Scope} {dV pm cdv : Value} {args : List Value} {binds : Addr → List (Str × Value)} {Q : Value → A0e → Led → Prop} (K : Cls C FN i) (F : FnAt i name qual params body scope dV pm cdv)
  (hroom : Γ.dp + 1 < recursionLimit) (hbind : ∀ x, ∀ s : Shared, (kf Γ.w.params).In s.heap → BindsTo s (fnOf name qual params body scope dV .none .none pm none cdv .none) ⟨.ref x :: args, []⟩ (binds x)) (more gl : List Str) (hc : ∀ x, chk scope ((A0U (binds x) more).map (·.1)) gl = true)
  (hbody : ∀ x d Γ', Γ.Under (Γ.A.under (.builtin "type.__call__" ⟨.ref C :: args, []⟩)) scope gl Γ' → Do Γ' (A0U (binds x) more) ((x, .inst C d) :: (d, .flds []) :: led) [body] fun fl _ led' => A2b fl = .none ∧ Q (.ref x) vs led') : Run Γ vs led (call (.ref C) args) Q := fun h tk S => by
 obtain ⟨m1, m2, m3⟩ := K.makes Γ.w.params
 refine A1E (A9w (makes_of S.kin m1) (looks_findIn S.kin m2) (fun self => bind_fn S.kin self (beq_iff_eq.mp m3)) rfl ?_)
 have hc' := hc (h.objs.size + 1)
 simp only [chk, Bool.and_eq_true, decide_eq_true_eq, List.all_eq_true, Bool.not_eq_true'] at hc'
 obtain ⟨⟨⟨⟨⟨⟨h1, h2⟩, h3⟩, h4⟩, h5⟩, h6⟩, h7⟩ := hc'
 have S1 := S.alloc (lo := .flds []) (o := emptyDict) ⟨[], 0, rfl, .nil, List.nodup_nil, Nat.zero_le _⟩ rfl
 have S2 := S1.alloc (lo := .inst C h.objs.size) (o := instObj C h.objs.size) rfl rfl
 rw [Heap.size_push] at S2
 refine enter (args := .ref (h.objs.size + 1) :: args) rfl rfl hroom F.ho F.hcd (hbind _) more gl h1 (fun x hx => h2 x hx) (fun x hx => h3 x hx) h4 h5 h6 (fun x hx => h7 x hx) (fun Γ' U => ?_) S2
 have H := hbody (h.objs.size + 1) h.objs.size Γ' U
 exact Run.mono H fun fl vs' led' q => by
  cases fl <;> exact fun h tk S => ⟨q.1, Post.mk S q.2⟩
theorem Cx.Under.lowM' {Γ Γ' : Cx} {cs : Scope} {gl : List Str} {n : Nat} {C : Addr} {args : List Value} (U : Γ.Under (Γ.A.under (.builtin "type.__call__" ⟨.ref C :: args, []⟩)) cs gl Γ') (l : Low Γ n) : Low Γ' (n + 2) := by
 have h1 : Γ'.dp = Γ.dp + 1 + 1 := U.dp
 have hu : (Γ.A.under (.builtin "type.__call__" ⟨.ref C :: args, []⟩)).units ≤ Γ.un + 3 := by
  show Γ.un + _ ≤ _
  exact Nat.add_le_add_left (show (Code.builtin "type.__call__" ⟨.ref C :: args, []⟩).cUnits ≤ 3 from Nat.le_of_ble_eq_true rfl) _
 have h2 : Γ'.un ≤ Γ.un + 3 + 3 := by rw [U.un]; exact Nat.add_le_add_right hu 3
 exact ⟨by rw [h1]; have := l.1; omega, by have := l.2; omega, U.gd.trans (by show pushGuards (Code.builtin "type.__call__" ⟨.ref C :: args, []⟩).guards Γ.gd = some []; rw [l.3]; rfl)⟩
end
end Mine
namespace Mine
inductive Pick : Led → Led → Led → Prop
 | nil {r} : Pick [] r r
 | cons {a lo as b b' r} : Ex a lo b b' → Pick as b' r → Pick ((a, lo) :: as) b r
theorem Pick.sub {as b r : Led} (p : Pick as b r) : Sub (as ++ r) b := by
 induction p with
 | nil => exact .refl
 | cons e _ ih => exact .cons e ih
section
variable {Γ : Cx} {vs : A0e} {led R : Led} {α : Type} {t : Sem α} {Q : α → A0e → Led → Prop}
theorem Run.pick1 {a : Addr} {x : LObj} (p : Pick [(a, x)] led R) (H : Run Γ vs ((a, x) :: R) t Q) : Run Γ vs led t Q := Run.sub p.sub H
theorem Run.pick2 {a b : Addr} {x y : LObj} (p : Pick [(a, x), (b, y)] led R) (H : Run Γ vs ((a, x) :: (b, y) :: R) t Q) : Run Γ vs led t Q := Run.sub p.sub H
theorem Run.pick3 {a b c : Addr} {x y z : LObj} (p : Pick [(a, x), (b, y), (c, z)] led R) (H : Run Γ vs ((a, x) :: (b, y) :: (c, z) :: R) t Q) : Run Γ vs led t Q := Run.sub p.sub H
theorem Run.pick4 {a b c d : Addr} {x y z u : LObj} (p : Pick [(a, x), (b, y), (c, z), (d, u)] led R) (H : Run Γ vs ((a, x) :: (b, y) :: (c, z) :: (d, u) :: R) t Q) : Run Γ vs led t Q := Run.sub p.sub H
end
section
variable {Γ : Cx} {vs : A0e} {led : Led} {k : List (List Stmt)} {rest : List Stmt} {Q : Flow → A0e → Led → Prop}
theorem B5c {ss : List Stmt} (H : Γ.cs.kind = .function → Do Γ vs led (ss :: k) Q) : Do Γ vs led (ss :: k) Q := fun h tk S => H S.hk h tk S
theorem B4T {e : Expr} {pos : Pos} (H : Run Γ vs led (eval e Γ.env) fun v vs led => (match v with | .ref _ => False | _ => True) ∧ Do Γ vs led (rest :: k) Q)
  (hs : swapsWith e none pos.line Γ.env = pure false := by rfl) : Do Γ vs led ((.Expr e pos :: rest) :: k) Q :=
 B5c fun hk => B8g H (by unfold interactive; rw [show Γ.env.scope.kind = .function from hk]; rfl) hs
end
section
variable {Γ : Cx} {vs : A0e} {led : Led} {k : List (List Stmt)} {rest : List Stmt} {Q : Flow → A0e → Led → Prop}
theorem B2e {test : Expr} {body : List Stmt} {pos : Pos} (H : Run Γ vs led (isTrue test Γ.env (eval test Γ.env)) fun b vs led => b = false ∧ Do Γ vs led (rest :: k) Q) : Do Γ vs led ((.While test body [] pos :: rest) :: k) Q := B0T (by
 have e : exec (.While test body [] pos) Γ.env = (do standAt pos; runOwn (.whileLoop test body [] Γ.env) Γ.env) := rfl
 rw [e]
 refine Run.stand ?_
 unfold runOwn
 refine Run.onR fun h tk S => A9L (A1c rfl ?_)
 show wpM Γ.nd Γ.M Γ.A ((whileTurn test body [] Γ.env).onRaise (fun x => do noteFrame x Γ.env; theTreesLotGoes x)) _ _ _
 refine A2Y ?_
 unfold whileTurn
 refine A0f (H.use S fun b h' tk' vs' led' S' q => ?_)
 obtain ⟨rfl, q⟩ := q
 rw [if_neg Bool.false_ne_true]
 exact A0f (A0v (wpAny_execs_nil (A0v (wpAny_pure (Post.mk S' ⟨rfl, q⟩))))))
end
section
variable {Γ : Cx} {vs : A0e} {led : Led} {env : Env} {Q : A0e → Led → Prop}
theorem A4X {xs : List Value} (q : Q vs led) : A8B Γ env [] xs vs led Q := q
theorem A0Y {t : Expr} {ts : List Expr} {v : Value} {xs : List Value} (H : Run Γ vs led (assign t env v) fun _ vs led => A8B Γ env ts xs vs led Q) : A8B Γ env (t :: ts) (v :: xs) vs led Q := H
noncomputable def B5z : Expr → Bool
 | .Starred _ _ => false
 | _ => true
theorem A1O {elts : List Expr} {k : Nat} {pos : Pos} {a : Addr} {l : List Value} {Q : Unit → A0e → Led → Prop} (hm : (a, LObj.tup l) ∈ led) (hn : elts.length = l.length) (hs : elts.all B5z = true) (H : A8B Γ env elts l vs led fun vs led => Q () vs led) : Run Γ vs led (assign (.Tuple elts k pos) env (.ref a)) Q := by
 have hs' : ∀ t ∈ elts, ∀ u p, t ≠ .Starred u p := fun t ht u p e => by
  have := List.all_eq_true.mp hs t ht
  rw [e] at this; cases this
 have hz : ∀ {es : List Expr}, (∀ t ∈ es, ∀ u p, t ≠ .Starred u p) → (assignEach es env).length = es.length ∧ (assignEach es env).findIdx? (·.1) = none := by
  intro es he
  induction es with
  | nil => exact ⟨rfl, rfl⟩
  | cons t r ih =>
   obtain ⟨i1, i2⟩ := ih fun t ht => he t (.tail _ ht)
   have e : assignEach (t :: r) env = (false, assign t env) :: assignEach r env := by
    cases t <;> first | rfl | exact absurd rfl (he _ (.head _) _ _)
   rw [e]
   refine ⟨by rw [List.length_cons, i1, List.length_cons], ?_⟩
   rw [List.findIdx?_cons, i2]; rfl
 exact A8A hm H ((hz hs').1.trans hn) (hz hs').2 hs'
end
theorem B9f {Γ : Cx} {vs : A0e} {led : Led} {Q : Value → A0e → Led → Prop} {value slice : Expr} {b : List UInt8} {k : Int} {t u : Tok} {x : UInt8} (hx : b[k.toNat]? = some x) (hz : b.length ≤ 1000000) (h0 : 0 ≤ k) (q : ∀ t, Q (.int x.toNat t) vs led)
  (hs : subscripted slice false (.bytes b.toArray t) (.int k u) = operate [.bytes b.toArray t, .int k u] (getItem (.bytes b.toArray t) (.int k u))) (ht : ∀ r, letTemporaryGo value (.bytes b.toArray t) r = pure ()) : Run Γ vs led (subscriptTail value slice (.bytes b.toArray t) (.int k u)) Q := by
 have hlt : k.toNat < b.length := (List.getElem?_eq_some_iff.mp hx).1
 have hg : b.getD k.toNat 0 = x := by simp [List.getD, hx]
 exact B3I hz h0 (by omega) (fun t => by rw [hg]; exact q t) hs ht
theorem A7W {Γ : Cx} {vs : A0e} {led : Led} {x C d f : Addr} {fs : List (Str × Value)} {name : Str} {pl : Sem Bool} {Q : Value × List Value → A0e → Led → Prop} {FN : List Str} (hx : (x, LObj.inst C d) ∈ led) (hd : (d, LObj.flds fs) ∈ led) (K : A2X C name f ∧ name ∉ FN ∧ A0B f) (e : fs.map (·.1) = FN)
  (q : Q (.ref f, [.ref x]) vs led) : Run Γ vs led (getMethod (.ref x) name pl) Q := A8z hx hd K.1 K.2.1 e q
section
theorem A5y {w : World} {A : Around} {E : Value → Shared → Prop} {s : Shared} {value slice : Expr} {o i : Value} {T id : String} {ops : List Value} {Q : Value → Shared → Prop} (hT : s.TypeIs o T)
  (hl : typeLookup (.type T) "__getitem__" = pure (some (.builtin id))) (h : wpAny (model pw w) A (getItem o i) Q E s)
  (hs : subscripted slice false o i = operate ops (getItem o i)) : wpAny (model pw w) A (subscriptTail value slice o i) Q E s := by
 unfold subscriptTail
 refine wpAny_bind ?_
 rw [getitemInPython_of_ne hT.not_modules]
 refine wpAny_bind (wpAny_specialOf hT hl ?_)
 have fin : wpAny (model pw w) A (subscripted slice false o i) (fun r s₃ => wpAny (model pw w) A (letTemporaryGo value o r >>= fun _ => pure r) Q E s₃) E s := by
  rw [hs]
  exact wpAny_operating (wpAny_mono h (fun r s₃ h₃ => wpAny_bind (wpAny_letTemporaryGo (wpAny_pure h₃))) fun _ _ x => x)
 first
  | exact wpAny_pure (wpAny_bind fin)
  | exact wpAny_bind (wpAny_pure (wpAny_bind fin))
  | exact wpAny_bind fin
variable {Γ : Cx} {vs : A0e} {led : Led} {Q : Value → A0e → Led → Prop} {value slice : Expr}
theorem B2O {l : Addr} {xs : List Value} {k : Int} {u : Tok} {x : Value} (hm : (l, LObj.list xs) ∈ led) (h0 : 0 ≤ k) (h1 : k < 2 ^ 63) (hx : xs[k.toNat]? = some x) (q : Q x vs led)
  (hs : subscripted slice false (.ref l) (.int k u) = operate [.ref l, .int k u] (getItem (.ref l) (.int k u))) : Run Γ vs led (subscriptTail value slice (.ref l) (.int k u)) Q := Run.leaf fun h tk S =>
 A5y (s := Γ.at h tk) (S.isList hm).typeIs slot_list_getitem.lookup (wpAny_getItem_list (S.isList hm) h0 h1 (by simpa using hx) (Post.mk S q)) hs
theorem B4d {l : Addr} {xs : List Value} {k : Int} {u : Tok} {x : Value} (hm : (l, LObj.list xs) ∈ led) (h0 : k < 0) (h1 : -(xs.length : Int) ≤ k) (hz : xs.length ≤ 1000000) (hx : xs[(k + xs.length).toNat]? = some x) (q : Q x vs led)
  (hs : subscripted slice false (.ref l) (.int k u) = operate [.ref l, .int k u] (getItem (.ref l) (.int k u))) : Run Γ vs led (subscriptTail value slice (.ref l) (.int k u)) Q := Run.leaf fun h tk S =>
 A5y (s := Γ.at h tk) (S.isList hm).typeIs slot_list_getitem.lookup (wpAny_getItem_list_neg (S.isList hm) h0 (by simpa using h1) (by omega) (by simpa using hx) (Post.mk S q)) hs
theorem B9q {l : Addr} {xs : List Value} {k : Int} {u : Tok} {x : Value} (hm : (l, LObj.tup xs) ∈ led) (h0 : 0 ≤ k) (h1 : k < 2 ^ 63) (hx : xs[k.toNat]? = some x) (q : Q x vs led)
  (hs : subscripted slice false (.ref l) (.int k u) = operate [.ref l, .int k u] (getItem (.ref l) (.int k u))) : Run Γ vs led (subscriptTail value slice (.ref l) (.int k u)) Q := Run.leaf fun h tk S =>
 A5y (s := Γ.at h tk) (S.isTup hm).typeIs slot_tuple_getitem.lookup (getItem_tuple (j := k.toNat) (S.isTup hm) (by omega) h1 (by
  rw [List.size_toArray]
  have hlt := (List.getElem?_eq_some_iff.mp hx).1
  unfold seqIndex?
  simp only [h0, if_true]
  first | (rw [if_pos]; omega) | (split <;> simp_all <;> omega)) (by simpa using hx) (Post.mk S q)) hs
theorem B6E {d : Addr} {kvs : List (List UInt8 × Value)} {b : Array UInt8} {t : Tok} {v : Value} (hm : (d, LObj.bdict Γ.w kvs) ∈ led) (hv : PySem.valueAt kvs b.toList = some v) (q : Q v vs led)
  (hs : subscripted slice false (.ref d) (.bytes b t) = operate [.ref d, .bytes b t] (getItem (.ref d) (.bytes b t))) : Run Γ vs led (subscriptTail value slice (.ref d) (.bytes b t)) Q := Run.leaf fun h tk S =>
 A5y (s := Γ.at h tk) (S.isDict hm).typeIs slot_dict_getitem.lookup (wpAny_getItem_of (s := Γ.at h tk) (isK Γ.w b t) (S.isDict hm).mapOf hv (Post.mk (tk := tk + 1) S q)) hs
end
theorem B0B {n : Nat} {a : Int} (h0 : 0 ≤ a) (h1 : a ≤ n) : clipAt n a = a.toNat := by
 obtain ⟨j, rfl⟩ := Int.eq_ofNat_of_zero_le h0
 rw [clipAt_nat]
 have : j ≤ n := by omega
 simp [Nat.min_eq_left this]
theorem A9i {l body : List UInt8} {a b : Int} {n : Nat} (h0 : 0 ≤ a) (hb : b = a + n) (h1 : b ≤ l.length) (e : (l.drop a.toNat).take n = body) : KBy.picked l.toArray (some a) (some b) = body.toArray := by
 rw [KBc.picked_eq]
 subst hb
 simp only [Option.elim_some, List.size_toArray]
 rw [B0B h0 (by omega), B0B (by omega) h1]
 have : (a + n).toNat - a.toNat = n := by omega
 rw [this, ← e]
theorem B1c {Γ : Cx} {vs : A0e} {led led' : Led} {x C d i : Addr} {fs : List (Str × Value)} {name : Str} {v : Value} {Q : Unit → A0e → Led → Prop} {FN rest : List Str} (K : Cls C FN i) (hx : (x, LObj.inst C d) ∈ led) (hm : (d, LObj.flds fs) ∈ led) (e : FN = fs.map (·.1) ++ name :: rest)
  (U : Upd1 d (.flds fs) (.flds (fs ++ [(name, v)])) led led') (k : Fld C name) (q : Q () vs led') : Run Γ vs led (setAttr (.ref x) name v) Q := B2j hx K.nd K.hz e U k K.takes q
theorem A3N {b : Bool} {X Y : Prop} (h : b = true) (x : X) : (b = true → X) ∧ (b = false → Y) := ⟨fun _ => x, fun e => by rw [h] at e; cases e⟩
theorem A1D {b : Bool} {X Y : Prop} (h : b = false) (y : Y) : (b = true → X) ∧ (b = false → Y) := ⟨fun e => by rw [h] at e; (cases e), fun _ => y⟩
theorem C0e {b : Bool} {X Y : Prop} (h : b = true) (x : X) : (b = false → Y) ∧ (b = true → X) := ⟨fun e => by rw [h] at e; (cases e), fun _ => x⟩
theorem C0f {b : Bool} {X Y : Prop} (h : b = false) (y : Y) : (b = false → Y) ∧ (b = true → X) := ⟨fun _ => y, fun e => by rw [h] at e; cases e⟩
noncomputable def Grow (R R' : Led) : Prop := ∀ x ∈ R, x ∈ R'
theorem Grow.refl {R : Led} : Grow R R := fun _ h => h
theorem Grow.cons {R R' : Led} {p : Addr × LObj} (g : Grow R R') : Grow R (p :: R') := fun x h => .tail _ (g x h)
theorem Grow.trans {A B C : Led} (g : Grow A B) (g' : Grow B C) : Grow A C := fun x h => g' x (g x h)
theorem Grow.mem {R R' : Led} (g : Grow R R') {x : Addr × LObj} (h : x ∈ R) : x ∈ R' := g x h
end Mine
namespace Mine
section
variable {Γ : Cx} {vs : A0e} {led led' : Led} {Q : Value → A0e → Led → Prop} {scope : Scope} {cl : List (Str × Addr)}
noncomputable def Stop (p : Prop) : Prop := p
theorem Stop.mk {p : Prop} (h : p) : Stop p := h
theorem Sub.of_eq {a b : Led} (e : a = b) : Sub a b := e ▸ .refl
theorem B3C {elt iter : Expr} {x : Str} {px pos : Pos} {ifs : List Expr} {l : Addr}
  (H : Run Γ.off vs led (eval iter Γ.env) fun v vs' led' => Stop (v = .ref l ∧ vs' = vs ∧ led' = led)) (hl : (l, LObj.list []) ∈ led) (q : ∀ D, Q (.ref D) vs ((D, .list []) :: led))
  (hclos : closureFor scope Γ.env = pure cl) (hc : B1O scope x = true) (hs : ∀ x, foldedSetIterable iter Γ.env x = pure x) : Run Γ vs led (eval (.ListComp elt [⟨.Name x px, iter, ifs, 0⟩] scope pos) Γ.env) Q := by
 refine A4k (cl := cl) (x := x) (H.mono fun v vs' led' zz => ?_) hclos hc hs
 obtain ⟨e1, e2, e3⟩ := zz
 subst e1 e2 e3
 refine A3W hl fun a => ⟨_, _, _, _, A2E _ l [], by simp, a, led', fun i ys L => ys = [] ∧ L = led', rfl, .refl, ⟨rfl, rfl⟩, fun i ys L h => h.2 ▸ hl, fun i v ys L C D hi => absurd hi (by simp), fun ys L D h _ => ?_⟩
 rw [h.1, h.2]
 exact q D
theorem B8l {elt iter : Expr} {x : Str} {px pos : Pos} {l : Addr} {v : Value} (P : Led → Value → Led → Prop)
  (H : Run Γ.off vs led (eval iter Γ.env) fun w vs' led' => Stop (w = .ref l ∧ vs' = vs ∧ led' = led)) (hl : (l, LObj.list [v]) ∈ led)
  (hP : ∀ y L, P led y L → (l, LObj.list [v]) ∈ L)
  (E : ∀ a C D, Run Γ.off vs ((a, itL l 1) :: (C, .ns [(x, some v)]) :: (D, .list []) :: led) (eval elt (compEnvC scope cl C Γ.env)) fun y vs' led' => vs' = vs ∧ ∃ led₁, Sub ((a, itL l 1) :: (C, .ns [(x, some v)]) :: (D, .list []) :: led₁) led' ∧ P led y led₁)
  (q : ∀ y D L, P led y L → Q (.ref D) vs ((D, .list [y]) :: L))
  (hclos : closureFor scope Γ.env = pure cl) (hc : B1O scope x = true) (hs : ∀ x, foldedSetIterable iter Γ.env x = pure x) : Run Γ vs led (eval (.ListComp elt [⟨.Name x px, iter, [], 0⟩] scope pos) Γ.env) Q := by
 refine A4k (cl := cl) (x := x) (H.mono fun w vs' led' zz => ?_) hclos hc hs
 obtain ⟨e1, e2, e3⟩ := zz
 subst e1 e2 e3
 refine A3W hl fun a => ⟨_, _, _, _, A2E _ l [v], by simp, a, led', fun i ys L => (i = 0 ∧ ys = [] ∧ L = led') ∨ (i = 1 ∧ ∃ y, ys = [y] ∧ P led' y L), rfl, .refl, .inl ⟨rfl, rfl, rfl⟩, ?_, ?_, ?_⟩
 ·rintro i ys L (⟨rfl, rfl, rfl⟩ | ⟨rfl, y, rfl, h⟩)
  ·exact hl
  ·exact hP y L h
 ·rintro i w ys L C D hi hw (⟨rfl, rfl, rfl⟩ | ⟨rfl, y, rfl, h⟩) hy
  ·have e : w = v := by simpa using hw.symm
   subst e
   refine A4W ⟨fun _ => (E a C D).mono fun y vs'' led'' ⟨e, led₁, sb, p⟩ => ⟨e, led₁, sb, .inr ⟨rfl, y, rfl, p⟩⟩, nofun⟩
  ·simp at hi
 ·rintro ys L D (⟨h, rfl, rfl⟩ | ⟨_, y, rfl, h⟩) hn
  ·simp at h
  ·exact q y D L h
theorem A6B {x : Str} {v : Value} : asc [(x, some v)] x = some v := by simp [asc]
theorem B1h {elt iter : Expr} {x : Str} {px pos : Pos} {ifs : List Expr} {l : Addr} {xs : List Value} (J : Nat → List Value → Led → Prop) (hz : xs.length ≤ 1000000)
  (H : Run Γ.off vs led (eval iter Γ.env) fun w vs' led' => Stop (w = .ref l ∧ vs' = vs ∧ led' = led)) (hl : (l, LObj.list xs) ∈ led)
  (h0 : J 0 [] led) (hJ : ∀ i ys L, J i ys L → (l, LObj.list xs) ∈ L)
  (E : ∀ i v ys L a C D, xs[i]? = some v → J i ys L → ys.length ≤ i → Run Γ.off vs ((a, itL l (i + 1)) :: (C, .ns [(x, some v)]) :: (D, .list ys) :: L) (A4B ifs (compEnvC scope cl C Γ.env)) fun b vs' led' =>
      (b = true → Run Γ.off vs' led' (eval elt (compEnvC scope cl C Γ.env)) fun y vs'' led'' => vs'' = vs ∧ ∃ led₁, Sub ((a, itL l (i + 1)) :: (C, .ns [(x, some v)]) :: (D, .list ys) :: led₁) led'' ∧ J (i + 1) (ys ++ [y]) led₁) ∧
      (b = false → vs' = vs ∧ ∃ led₁, Sub ((a, itL l (i + 1)) :: (C, .ns [(x, some v)]) :: (D, .list ys) :: led₁) led' ∧ J (i + 1) ys led₁))
  (q : ∀ ys L D, J xs.length ys L → ys.length ≤ xs.length → Q (.ref D) vs ((D, .list ys) :: L))
  (hclos : closureFor scope Γ.env = pure cl) (hc : B1O scope x = true) (hs : ∀ x, foldedSetIterable iter Γ.env x = pure x) : Run Γ vs led (eval (.ListComp elt [⟨.Name x px, iter, ifs, 0⟩] scope pos) Γ.env) Q := by
 refine A4k (cl := cl) (x := x) (H.mono fun w vs' led' zz => ?_) hclos hc hs
 obtain ⟨e1, e2, e3⟩ := zz
 subst e1 e2 e3
 exact A3W hl fun a => ⟨_, _, _, _, A2E _ l xs, hz, a, led', J, rfl, .refl, h0, hJ, fun i v ys L C D _ hv j hy => E i v ys L a C D hv j hy, fun ys L D j hn => q ys L D j hn⟩
end
section
variable {Γ : Cx} {vs : A0e} {led : Led} {k : List (List Stmt)} {rest : List Stmt} {Q : Flow → A0e → Led → Prop}
theorem B2o {target iter : Expr} {body : List Stmt} {pos : Pos} {l : Addr} {xs : List Value} (J : Nat → A0e → Led → Prop)
  (H : Run Γ vs led (eval iter Γ.env) fun w vs' led' => Stop (w = .ref l ∧ (l, LObj.list xs) ∈ led' ∧ J 0 vs' led')) (hJ : ∀ i vs L, J i vs L → (l, LObj.list xs) ∈ L)
  (turn : ∀ i v vs L a, xs[i]? = some v → J i vs L → Run Γ vs ((a, itL l (i + 1)) :: L) (assign target Γ.env v) fun _ vs led => Do Γ vs led [body] fun f vs led => match f with
     | .next | .cont => ∃ led₁, Sub ((a, itL l (i + 1)) :: led₁) led ∧ J (i + 1) vs led₁
     | .brk => Do Γ vs led (rest :: k) Q
     | .ret v => Q (.ret v) vs led)
  (done : ∀ vs L, J xs.length vs L → Do Γ vs L (rest :: k) Q)
  (hs : ∀ x, foldedSetIterable iter Γ.env x = pure x) (ht : ∀ it v, letOwnedTupleGo target it v = pure ()) : Do Γ vs led ((.For target iter body [] pos :: rest) :: k) Q := by
 refine B2f (H.mono fun w vs' led' zz => ?_) hs ht
 obtain ⟨e, hl, j⟩ := zz
 subst e
 exact ⟨_, _, _, _, A2E _ l xs, A3W hl fun a => ⟨a, led', J, rfl, .refl, j, hJ, fun i v vs L _ hv j => turn i v vs L a hv j, done⟩⟩
theorem B0u {elts : List Expr} {x1 : Nat} {pos : Pos} {a l T : Addr} {i : Nat} {Q : Unit → A0e → Led → Prop} (hm : (a, itL l i) ∈ led) (q : Q () vs led) : Run Γ vs led (letOwnedTupleGo (.Tuple elts x1 pos) (.ref a) (.ref T)) Q := Run.leaf fun h tk S => by
 obtain ⟨o, ho, ho', _⟩ := S.get hm
 exact wpAny_letOwnedTupleGo_listiter (s := Γ.at h tk) (l := l) (i := i) ⟨_, ho, ho'.1, ho'.2⟩ (Post.mk S q)
theorem B1i {elts : List Expr} {x1 : Nat} {tp : Pos} {iter : Expr} {body : List Stmt} {pos : Pos} {l : Addr} {xs : List Value} (J : Nat → A0e → Led → Prop)
  (H : Run Γ vs led (eval iter Γ.env) fun w vs' led' => Stop (w = .ref l ∧ (l, LObj.list xs) ∈ led' ∧ J 0 vs' led')) (hJ : ∀ i vs L, J i vs L → (l, LObj.list xs) ∈ L)
  (turn : ∀ i v vs L a, xs[i]? = some v → J i vs L → ∃ T, v = .ref T ∧ Run Γ vs ((a, itL l (i + 1)) :: L) (assign (.Tuple elts x1 tp) Γ.env (.ref T)) fun _ vs led => Do Γ vs led [body] fun f vs led => match f with
     | .next | .cont => ∃ led₁, Sub ((a, itL l (i + 1)) :: led₁) led ∧ J (i + 1) vs led₁
     | .brk => Do Γ vs led (rest :: k) Q
     | .ret v => Q (.ret v) vs led)
  (done : ∀ vs L, J xs.length vs L → Do Γ vs L (rest :: k) Q)
  (hs : ∀ x, foldedSetIterable iter Γ.env x = pure x) : Do Γ vs led ((.For (.Tuple elts x1 tp) iter body [] pos :: rest) :: k) Q := by
 refine B0U (H.mono fun w vs' led' zz => ?_) hs
 obtain ⟨e, hl, j⟩ := zz
 subst e
 refine ⟨_, _, _, _, A2E _ l xs, A3W hl fun a => ⟨a, led', J, rfl, .refl, j, hJ, fun i v vs L _ hv j => ?_, done⟩⟩
 obtain ⟨T, rfl, h⟩ := turn i v vs L a hv j
 exact B0u (.head _) h
theorem A4f {target iter : Expr} {body : List Stmt} {pos : Pos} {a : Int} {n : Nat} (ha : 0 ≤ a) (ha2 : a ≤ 1000000) (hn : n ≤ 1000000) (J : Nat → A0e → Led → Prop)
  (H : Run Γ vs led (eval iter Γ.env) fun w vs' led' => Stop (∃ r t u v, w = .ref r ∧ (r, A5D a (a + n) 1 t u v) ∈ led' ∧ J 0 vs' led'))
  (turn : ∀ i t vs L it, i < n → J i vs L → Run Γ vs ((it, itR a n (i + 1)) :: L) (assign target Γ.env (.int (a + i) t)) fun _ vs led => Do Γ vs led [body] fun f vs led => match f with
     | .next | .cont => ∃ led₁, Sub ((it, itR a n (i + 1)) :: led₁) led ∧ J (i + 1) vs led₁
     | .brk => Do Γ vs led (rest :: k) Q
     | .ret v => Q (.ret v) vs led)
  (done : ∀ vs L, J n vs L → Do Γ vs L (rest :: k) Q)
  (hs : ∀ x, foldedSetIterable iter Γ.env x = pure x) (ht : ∀ it v, letOwnedTupleGo target it v = pure ()) : Do Γ vs led ((.For target iter body [] pos :: rest) :: k) Q := by
 refine B2f (H.mono fun w vs' led' zz => ?_) hs ht
 obtain ⟨r, t, u, v, e, hl, j⟩ := zz
 subst e
 refine ⟨_, _, _, _, A6o _ a n, A8R hl ha ha2 hn fun it => ⟨it, led', J, rfl, .refl, j, fun _ _ _ _ => trivial, fun i v vs L hi ⟨t, e⟩ j => ?_, done⟩⟩
 subst e
 exact turn i t vs L it hi j
end
theorem Sub.of_perm {a b g : Led} (p : b.Perm (a ++ g)) : Sub a b := by
 have exOf : ∀ {b : Led} {x : Addr × LObj}, x ∈ b → ∃ b', Ex x.1 x.2 b b' := by
  intro b x h
  induction h with
  | head => exact ⟨_, .head⟩
  | tail _ _ ih => obtain ⟨b', e⟩ := ih; exact ⟨_, .tail e⟩
 induction a generalizing b with
 | nil => exact .nil
 | cons x a ih =>
  obtain ⟨b', e⟩ := exOf (p.mem_iff.mpr (.head _))
  exact .cons e (ih ((List.perm_cons x).mp (e.perm.symm.trans p)))
inductive Cut : Led → Led → Led → Prop
 | nil {R} : Cut [] R R
 | cons {p C R led} : Cut C R led → Cut (p :: C) R (p :: led)
theorem Cut.eq {C R led : Led} (c : Cut C R led) : led = C ++ R := by
 induction c with
 | nil => rfl
 | cons _ ih => rw [ih]; rfl
noncomputable def Put (C R L : Led) : Prop := L.Perm (C ++ R)
theorem Put.sub {C R L : Led} (p : Put C R L) : Sub (C ++ R) L := Sub.of_perm (g := []) (by rw [List.append_nil]; exact p)
theorem A3l {C R led : Led} (c : Cut C R led) : Put C R led := by rw [c.eq]; exact List.Perm.refl _
theorem A0H {C R L : Led} {p : Addr × LObj} (h : Put C R L) : Put C (p :: R) (p :: L) := (h.cons p).trans List.perm_middle.symm
theorem Cut.app : ∀ {C R : Led}, Cut C R (C ++ R)
 | [], _ => .nil
 | _ :: _, _ => .cons Cut.app
theorem Grow.app {C R R' : Led} (g : Grow R R') : Grow (C ++ R) (C ++ R') := fun x h => by
 rcases List.mem_append.1 h with h | h
 ·exact List.mem_append_left _ h
 ·exact List.mem_append_right _ (g x h)
theorem Grow.appR {C R R' : Led} (g : Grow R R') : Grow R (C ++ R') := fun x h => List.mem_append_right _ (g x h)
theorem Cut.grow {C R led : Led} (c : Cut C R led) : Grow R led := by rw [c.eq]; exact fun x h => List.mem_append_right _ h
theorem Pairs.grow {R R' : Led} {xs : List Value} {ps : List (Int × Int)} (g : Grow R R') (P : Pairs R xs ps) : Pairs R' xs ps := P.mono fun a l h => g _ h
end Mine
namespace Mine
section
variable {Γ : Cx} {vs : A0e} {led : Led} {h : Heap} {tk : Nat}
theorem B6L {A' : Around} {R : Result → Shared → Prop} {name qual : Str} {params : Arguments} {body : List Stmt} {scope : Scope} {dV kV doc pm cdv ct oc : Value} {an od : Option Addr} {osl : Array (Option Value)} {f : Addr} {args : List Value} {binds : List (Str × Value)}
  (hf : A'.frames = some (Γ.env :: Γ.outer)) (hh : A'.handled = none) (hroom : A'.depth < recursionLimit)
  (ho : ∀ P, (kf P).lookup f = some ⟨oc, od, .func (fnOf name qual params body scope dV kV doc pm an cdv ct), osl⟩) (hcd : ∀ P, codeIn (kf P) cdv qual = true)
  (hbind : ∀ s : Shared, (kf Γ.w.params).In s.heap → BindsTo s (fnOf name qual params body scope dV kV doc pm an cdv ct) ⟨args, []⟩ binds) (y : Str) (vc : Option Value) (vs0 : A0e) (gl : List Str)
  (hcf : ∀ n, cellsFrom n scope.names [] = [(y, n)]) (hkv : ∀ x ∈ binds, scope.names.lookup x.1 = some .local ∨ (scope.names.lookup x.1 = some .cell ∧ x.1 = y))
  (hbL : bindL (fun z => scope.names.lookup z) binds (fun _ => none) = asc vs0) (hbC : bindC (fun z => scope.names.lookup z) binds (fun _ => none) y = vc)
  (hnd : (vs0.map (·.1)).Nodup) (hl : ∀ x ∈ vs0.map (·.1), scope.names.lookup x = some .local ∧ (x == ("__debug__" : Str)) = false) (hg' : ∀ x ∈ gl, scope.names.lookup x = some .globalImplicit ∧ (x == ("__debug__" : Str)) = false)
  (hco : scope.isCoroutine = false) (hgen : scope.isGenerator = false) (hk : scope.kind = .function)
  (hbody : ∀ Γ' c, Γ.Under A' scope gl Γ' → Γ'.cl = [(y, c)] → Do Γ' vs0 ((c, .cell vc) :: led) [body] fun fl _ led' => ∀ h tk, St Γ h vs led' → R (.ok (.ret (A2b fl))) (Γ.at h tk)) (S : St Γ h vs led) :
  A3M Γ.nd Γ.M A' (.call (.ref f) ⟨args, []⟩) R (Γ.at h tk) := by
 obtain ⟨news, RR, N⟩ := S.N
 obtain ⟨hd, dp, fr, gd, un⟩ := A'
 dsimp only at hf hh hroom
 subst hf hh
 have X := S.kin
 obtain ⟨FG, BG, st, lv⟩ := groundX (s := Γ.at h tk) (A := ⟨none, dp, some (Γ.env :: Γ.outer), gd, un⟩) (R := R) S.B S.F N rfl rfl S.hk
 generalize hg : hideAll (Γ.at h tk).heap (news.map (·.1)) = g at FG BG st lv
 refine A5i (s := Γ.at h tk) (body := body) hroom (X _ _ (ho _)) rfl hco hgen rfl (codeRec_of X (hcd _)) (hbind _ X _ _ _ _ (wpAny_newFunctionEnv_cells (s := Γ.at h tk) hk (fun x hx => ?_) fun env he s' x => ?_))
 ·rcases hkv x hx with q | ⟨q, e⟩
  ·exact .inl q
  ·refine .inr ⟨q, ?_⟩
   rw [show (fnOf name qual params body scope dV kV doc pm an cdv ct).scope = scope from rfl, hcf, e]
   simp [List.lookup_cons]
 subst he
 obtain ⟨h₁, tk₁, rfl, _⟩ := x.toInCall.done
 have hk₁ : ∀ b o, h.get? b = some o → h₁.get? b = some o := x.toInCall.keep
 refine ⟨S.T.nolimit.keeps (fun b o e => hk₁ b o (S.F.keep b o e)), A5h ?_⟩
 have nog : ∀ p ∈ news, g.get? p.1 = none := fun p hp => by rw [← hg]; exact hideAll_none _ (List.mem_map_of_mem hp)
 have szg : g.objs.size = h.objs.size := by rw [← hg]; exact hideAll_size _ _
 have ofg : ∀ b o, g.get? b = some o → h.get? b = some o := fun b o e => by rw [← hg] at e; exact of_hideAll _ e
 have hcf' : cellsFrom (h.objs.size + 1) scope.names [] = [(y, h.objs.size + 1)] := hcf _
 have hcell : h₁.IsCell (h.objs.size + 1) vc := by
  have := x.cell y (h.objs.size + 1) (by
   show List.lookup y (cellsFrom (h.objs.size + 1) scope.names []) = _
   rw [hcf']; simp [List.lookup_cons])
  rw [← hbC]
  exact this
 obtain ⟨oc', hoc, hdc⟩ := hcell
 let Γ' : Cx := { Γ with dp := dp + 1, un := un + 3, gd := gd, cn := qual, cs := scope, L := h.objs.size, a := f, ccd := cdv, outer := Γ.env :: Γ.outer, A₀ := ⟨none, dp, some (Γ.env :: Γ.outer), gd, un⟩, h₀ := g, gl := gl, cl := [(y, h.objs.size + 1)] }
 have S' : St Γ' h₁ vs0 ((h.objs.size + 1, .cell vc) :: led) := by
  refine { B := BG, F := ⟨?_, fun b o e => hk₁ b o (ofg b o e), Nat.le_of_eq szg⟩, X := S.X.keeps st, T := S.T.keeps st, hk := hk, N := ⟨(h.objs.size + 1, oc') :: news, .cons hdc RR, fun p hp => ?_⟩, nd := ?_, nv := hnd, hl := hl, hg := hg' }
  ·rw [← hbL]
   exact x.toInCall.ns
  ·rcases List.mem_cons.mp hp with rfl | hp
   ·refine ⟨hoc, Nat.ne_of_gt (Nat.lt_succ_self _), ?_⟩
    cases q : g.get? (h.objs.size + 1) with
    | none => rfl
    | some o => exact absurd (Heap.lt_size (ofg _ _ q)) (by show ¬ (h.objs.size + 1 < h.objs.size); exact Nat.not_lt.mpr (Nat.le_succ _))
   ·exact ⟨hk₁ _ _ (N p hp).1, Nat.ne_of_lt (Heap.lt_size (N p hp).1), nog p hp⟩
  ·rw [List.map_cons, List.nodup_cons]
   refine ⟨fun hm => ?_, S.nd⟩
   obtain ⟨p, hp, e⟩ := List.mem_map.mp hm
   have hlt := S.lt hp
   have e' : p.1 = h.objs.size + 1 := e
   rw [e'] at hlt
   exact absurd hlt (Nat.not_lt.mpr (Nat.le_succ _))
 have H : Do Γ' vs0 ((h.objs.size + 1, .cell vc) :: led) [body] _ := hbody Γ' _ ⟨rfl, rfl, rfl, rfl, rfl, rfl, rfl, rfl⟩ rfl
 have he : newEnv scope h.objs.size mainGlobals (cellsFrom (h.objs.size + 1) scope.names []) (qual ++ ".<locals>.") (some f) cdv none builtinsNs = Γ'.env := by
  rw [hcf']; rfl
 show wpM Γ.nd _ (Around.deeper _ (newEnv scope h.objs.size mainGlobals (cellsFrom (h.objs.size + 1) scope.names []) (qual ++ ".<locals>.") (some f) cdv none builtinsNs)) (execs body (newEnv scope h.objs.size mainGlobals (cellsFrom (h.objs.size + 1) scope.names []) (qual ++ ".<locals>.") (some f) cdv none builtinsNs)) _ _ _
 rw [he]
 refine Run.use H S' fun fl h' tk' vs' led' S'' q => ?_
 obtain ⟨news', R'', N''⟩ := S''.N
 have q' : ∀ h tk, St Γ h vs led' → R (.ok (.ret (A2b fl))) (Γ.at h tk) := by cases fl <;> exact q
 refine lv (A2b fl) _ (leaveK_ (h₀ := Γ.h₀) (L := Γ.L) S''.F N'' fun FF NN => q' h' tk' { B := S.B, F := FF, X := S.X, T := S.T, hk := S.hk, N := ⟨news', R'', NN⟩, nd := S''.nd, nv := S.nv, hl := S.hl, hg := S.hg })
theorem B4X {f : Addr} {name qual : Str} {params : Arguments} {body : List Stmt} {scope : Scope} {dV pm cdv : Value} {args : List Value} {binds : List (Str × Value)} {Q : Value → A0e → Led → Prop} (F : FnAt f name qual params body scope dV pm cdv)
  (hroom : Γ.dp < recursionLimit) (hbind : ∀ s : Shared, (kf Γ.w.params).In s.heap → BindsTo s (fnOf name qual params body scope dV .none .none pm none cdv .none) ⟨args, []⟩ binds) (y : Str) (vc : Option Value) (vs0 : A0e) (gl : List Str)
  (hcf : ∀ n, cellsFrom n scope.names [] = [(y, n)]) (hkv : ∀ x ∈ binds, scope.names.lookup x.1 = some .local ∨ (scope.names.lookup x.1 = some .cell ∧ x.1 = y))
  (hbL : bindL (fun z => scope.names.lookup z) binds (fun _ => none) = asc vs0) (hbC : bindC (fun z => scope.names.lookup z) binds (fun _ => none) y = vc)
  (hnd : (vs0.map (·.1)).Nodup) (hl : ∀ x ∈ vs0.map (·.1), scope.names.lookup x = some .local ∧ (x == ("__debug__" : Str)) = false) (hg' : ∀ x ∈ gl, scope.names.lookup x = some .globalImplicit ∧ (x == ("__debug__" : Str)) = false)
  (hco : scope.isCoroutine = false) (hgen : scope.isGenerator = false) (hk : scope.kind = .function)
  (hbody : ∀ Γ' c, Γ.Under Γ.A scope gl Γ' → Γ'.cl = [(y, c)] → Do Γ' vs0 ((c, .cell vc) :: led) [body] fun fl _ led' => Q (A2b fl) vs led') : Run Γ vs led (call (.ref f) args) Q := fun h tk S => by
 refine A1E (B6L (R := fun r s' => match r with | .ok (.ret v) => Post Γ Q v s' | .ok _ => False | .error e => NoE e s') rfl rfl hroom F.ho F.hcd hbind y vc vs0 gl hcf hkv hbL hbC hnd hl hg' hco hgen hk (fun Γ' c U hc => ?_) S)
 exact Run.mono (hbody Γ' c U hc) fun fl vs' led' q => by
  cases fl <;> exact fun h tk S => Post.mk S q
noncomputable def B8t (sc : Scope) (ls gl : List Str) : Bool := decide ls.Nodup && ls.all (fun x => decide (sc.names.lookup x = some .local) && !(x == ("__debug__" : Str))) && gl.all (fun x => decide (sc.names.lookup x = some .globalImplicit) && !(x == ("__debug__" : Str))) &&
 !sc.isCoroutine && !sc.isGenerator && decide (sc.kind = .function)
theorem A8X {kf : Str → Option NameKind} {binds : List (Str × Value)} : ∀ {m : Str → Option Value}, bindL kf binds m = fun y => ((binds.filter fun p => kf p.1 == some .local).reverse.lookup y).or (m y) := by
 induction binds with
 | nil => intro m; rfl
 | cons p r ih =>
  intro m
  obtain ⟨n, v⟩ := p
  rw [bindL, ih]
  funext y
  by_cases h : kf n = some .local
  ·have hb : (kf n == some .local) = true := by rw [h]; rfl
   rw [if_pos h, List.filter_cons, if_pos hb, List.reverse_cons, List.lookup_append]
   by_cases e : y = n
   ·subst e; simp [List.lookup_cons, Option.or_assoc]
   ·have hb : (y == n) = false := by simpa using e
    simp [List.lookup_cons, hb, e]
  ·have hb : (kf n == some .local) = false := by simpa using h
   rw [if_neg h, List.filter_cons, hb]
   simp
theorem B2a {kf : Str → Option NameKind} {binds : List (Str × Value)} : ∀ {m : Str → Option Value}, bindC kf binds m = fun y => ((binds.filter fun p => !(kf p.1 == some .local)).reverse.lookup y).or (m y) := by
 induction binds with
 | nil => intro m; rfl
 | cons p r ih =>
  intro m
  obtain ⟨n, v⟩ := p
  rw [bindC, ih]
  funext y
  by_cases h : kf n = some .local
  ·have hb : (kf n == some .local) = true := by rw [h]; rfl
   rw [if_pos h, List.filter_cons, hb]
   simp
  ·have hb : (kf n == some .local) = false := by simpa using h
   rw [if_neg h, List.filter_cons, hb]
   simp only [Bool.not_false, if_true]
   rw [List.reverse_cons, List.lookup_append]
   by_cases e : y = n
   ·subst e; simp [List.lookup_cons, Option.or_assoc]
   ·have hb : (y == n) = false := by simpa using e
    simp [List.lookup_cons, hb, e]
theorem B4W {f : Addr} {name qual : Str} {params : Arguments} {body : List Stmt} {scope : Scope} {dV pm cdv : Value} {args : List Value} {binds : List (Str × Value)} {Q : Value → A0e → Led → Prop} (F : FnAt f name qual params body scope dV pm cdv)
  (hroom : Γ.dp < recursionLimit) (hbind : ∀ s : Shared, (kf Γ.w.params).In s.heap → BindsTo s (fnOf name qual params body scope dV .none .none pm none cdv .none) ⟨args, []⟩ binds) (y : Str) (vc : Option Value) (lb : List (Str × Value)) (more gl : List Str)
  (hcf : ∀ n, cellsFrom n scope.names [] = [(y, n)]) (hkv : binds.all (fun x => scope.names.lookup x.1 == some .local || (scope.names.lookup x.1 == some .cell && x.1 == y)) = true)
  (hbL : (binds.filter fun p => scope.names.lookup p.1 == some .local) = lb) (hbC : (binds.filter fun p => !(scope.names.lookup p.1 == some .local)).reverse.lookup y = vc) (hc : B8t scope ((A0U lb more).map (·.1)) gl = true)
  (hbody : ∀ Γ' c, Γ.Under Γ.A scope gl Γ' → Γ'.cl = [(y, c)] → Do Γ' (A0U lb more) ((c, .cell vc) :: led) [body] fun fl _ led' => Q (A2b fl) vs led') : Run Γ vs led (call (.ref f) args) Q := by
 simp only [B8t, Bool.and_eq_true, decide_eq_true_eq, List.all_eq_true, Bool.not_eq_true'] at hc
 obtain ⟨⟨⟨⟨⟨h1, h2⟩, h3⟩, h4⟩, h5⟩, h6⟩ := hc
 refine B4X F hroom hbind y vc (A0U lb more) gl hcf (fun x hx => ?_) ?_ ?_ h1 (fun x hx => h2 x hx) (fun x hx => h3 x hx) h4 h5 h6 hbody
 ·have := List.all_eq_true.mp hkv x hx
  simp only [Bool.or_eq_true, Bool.and_eq_true, beq_iff_eq] at this
  exact this
 ·rw [A8X, A5Y h1, hbL]
  funext z
  simp
 ·rw [B2a]
  simp only [Option.or_none]
  exact hbC
theorem A6Y {sc : Scope} {y : Str} {c : Addr} (h : Γ.cl = [(y, c)]) (e : closureFor sc ({ Γ with cl := [(y, c)] } : Cx).env = pure [(y, c)]) : closureFor sc Γ.env = pure [(y, c)] := by
 have : Γ = { Γ with cl := [(y, c)] } := by cases Γ; cases h; rfl
 rw [this]
 exact e
end
end Mine
namespace Mine
noncomputable abbrev By := List UInt8
noncomputable abbrev Tab := List (By × By)
noncomputable def sto (t : Tab) (k v : By) : Tab := if t.any (fun p => p.1 = k) then t.map (fun p => if p.1 = k then (p.1, v) else p) else t ++ [(k, v)]
noncomputable def del (t : Tab) (k : By) : Tab := t.filter fun p => decide (p.1 ≠ k)
noncomputable def get (t : Tab) (k : By) : Option By := (t.find? fun p => p.1 = k).map (·.2)
inductive KvIs : List (By × Value) → Tab → Prop
 | nil : KvIs [] []
 | cons {k v : By} {t : Tok} {kvs tab} : KvIs kvs tab → KvIs ((k, .bytes v.toArray t) :: kvs) ((k, v) :: tab)
theorem KvIs.length {kvs : List (By × Value)} {tab : Tab} (h : KvIs kvs tab) : kvs.length = tab.length := by
 induction h with
 | nil => rfl
 | cons _ ih => simp [ih]
theorem KvIs.keys {kvs : List (By × Value)} {tab : Tab} (h : KvIs kvs tab) : kvs.map (·.1) = tab.map (·.1) := by
 induction h with
 | nil => rfl
 | cons _ ih => simp [ih]
theorem KvIs.app {a b : List (By × Value)} {x y : Tab} (h : KvIs a x) (h' : KvIs b y) : KvIs (a ++ b) (x ++ y) := by
 induction h with
 | nil => exact h'
 | cons _ ih => exact .cons ih
theorem KvIs.any {kvs : List (By × Value)} {tab : Tab} (h : KvIs kvs tab) (k : By) : kvs.any (fun p => p.1 = k) = tab.any (fun p => p.1 = k) := by
 induction h with
 | nil => rfl
 | cons _ ih => simp only [List.any_cons, ih]
theorem KvIs.map {kvs : List (By × Value)} {tab : Tab} (h : KvIs kvs tab) (k v : By) (t : Tok) : KvIs (kvs.map fun p => if p.1 = k then (p.1, .bytes v.toArray t) else p) (tab.map fun p => if p.1 = k then (p.1, v) else p) := by
 induction h with
 | nil => exact .nil
 | @cons k' v' t' kvs tab _ ih =>
  simp only [List.map_cons]
  by_cases e : k' = k
  ·rw [if_pos e, if_pos e]; exact .cons ih
  ·rw [if_neg e, if_neg e]; exact .cons ih
theorem KvIs.sto {kvs : List (By × Value)} {tab : Tab} (h : KvIs kvs tab) (k v : By) (t : Tok) : KvIs (PySem.stored kvs k (.bytes v.toArray t)) (Mine.sto tab k v) := by
 unfold PySem.stored Mine.sto
 rw [h.any k]
 split
 ·exact h.map k v t
 ·exact h.app (.cons .nil)
theorem KvIs.del {kvs : List (By × Value)} {tab : Tab} (h : KvIs kvs tab) (k : By) : KvIs (PySem.without kvs k) (Mine.del tab k) := by
 unfold PySem.without Mine.del
 induction h with
 | nil => exact .nil
 | @cons k' v' t' kvs tab _ ih =>
  simp only [List.filter_cons]
  split
  ·exact .cons ih
  ·exact ih
theorem KvIs.get {kvs : List (By × Value)} {tab : Tab} (h : KvIs kvs tab) (k : By) : (Mine.get tab k = none ∧ PySem.valueAt kvs k = none) ∨ ∃ v t, Mine.get tab k = some v ∧ PySem.valueAt kvs k = some (.bytes v.toArray t) := by
 unfold PySem.valueAt Mine.get
 induction h with
 | nil => exact .inl ⟨rfl, rfl⟩
 | @cons k' v' t' kvs tab _ ih =>
  simp only [List.find?_cons]
  by_cases e : k' = k
  ·simp only [e, decide_true]; exact .inr ⟨_, _, rfl, rfl⟩
  ·simp only [e, decide_false]; exact ih
inductive Op where
 | put (k v : By)
 | del (k : By)
noncomputable def Op.kind : Op → Int
 | .put _ _ => 1
 | .del _ => 0
noncomputable def Op.key : Op → By
 | .put k _ => k
 | .del k => k
noncomputable def Op.val : Op → By
 | .put _ v => v
 | .del _ => []
noncomputable def Op.run (t : Tab) : Op → Tab
 | .put k v => sto t k v
 | .del k => Mine.del t k
noncomputable def OpIn (R : Led) (v : Value) (op : Op) : Prop := ∃ r t1 t2 t3, v = .ref r ∧ (r, LObj.tup [.int op.kind t1, .bytes op.key.toArray t2, .bytes op.val.toArray t3]) ∈ R
inductive OpsIn (R : Led) : List Value → List Op → Prop
 | nil : OpsIn R [] []
 | cons {v op vs ops} : OpIn R v op → OpsIn R vs ops → OpsIn R (v :: vs) (op :: ops)
theorem OpIn.mono {R R' : Led} {v : Value} {op : Op} (g : Grow R R') (h : OpIn R v op) : OpIn R' v op := by
 obtain ⟨r, t1, t2, t3, e, a⟩ := h
 exact ⟨r, t1, t2, t3, e, g _ a⟩
theorem OpsIn.mono {R R' : Led} {vs : List Value} {ops : List Op} (g : Grow R R') (h : OpsIn R vs ops) : OpsIn R' vs ops := by
 induction h with
 | nil => exact .nil
 | cons a _ ih => exact .cons (a.mono g) ih
theorem OpsIn.app {R : Led} {a b : List Value} {x y : List Op} (h : OpsIn R a x) (h' : OpsIn R b y) : OpsIn R (a ++ b) (x ++ y) := by
 induction h with
 | nil => exact h'
 | cons c _ ih => exact .cons c ih
theorem OpsIn.length {R : Led} {a : List Value} {x : List Op} (h : OpsIn R a x) : a.length = x.length := by
 induction h with
 | nil => rfl
 | cons _ _ ih => simp [ih]
theorem OpsIn.at {R : Led} {a : List Value} {x : List Op} (h : OpsIn R a x) : ∀ {i : Nat} {v : Value}, a[i]? = some v → ∃ op, x[i]? = some op ∧ OpIn R v op := by
 induction h with
 | nil => intro i v e; simp at e
 | cons c _ ih =>
  intro i v e
  cases i with
  | zero => simp at e; subst e; exact ⟨_, rfl, c⟩
  | succ i => simp at e; simpa using ih e
section
variable {Γ : Cx} {vs : A0e} {led led' : Led} {Q : Value → A0e → Led → Prop} {w : World}
theorem A7Q {b c : By} {t u : Tok} (hz : b.length + c.length ≤ 1000000) (q : ∀ t, Q (.bytes (b ++ c).toArray t) vs led) : Run Γ vs led (binaryOp .Add (.bytes b.toArray t) (.bytes c.toArray u)) Q :=
 B0Q (by simp; omega) fun t => by rw [show b.toArray ++ c.toArray = (b ++ c).toArray by simp]; exact q t
theorem B9x {d : Addr} {kvs : List (By × Value)} {b : Array UInt8} {t : Tok} {v : Value} {Q : Unit → A0e → Led → Prop} (hw : Γ.w = w) (hz : kvs.length ≤ 1000) (U : Upd1 d (.bdict w kvs) (.bdict w (PySem.stored kvs b.toList v)) led led') (q : Q () vs led') :
  Run Γ vs led (setItem (.ref d) (.bytes b t) v) Q := by subst hw; exact B9D hz U q
theorem e_in {d : Addr} {kvs : List (By × Value)} {b : Array UInt8} {t : Tok} (hw : Γ.w = w) (hm : (d, LObj.bdict w kvs) ∈ led) (lo : Ok d) (q : Q (.bool (PySem.valueAt kvs b.toList).isSome) vs led) : Run Γ vs led (compareOp .In (.bytes b t) (.ref d)) Q := by subst hw; exact d_in hm lo q
theorem B6N {value slice : Expr} {d : Addr} {kvs : List (By × Value)} {b : Array UInt8} {t : Tok} {v : Value} (hw : Γ.w = w) (hm : (d, LObj.bdict w kvs) ∈ led) (hv : PySem.valueAt kvs b.toList = some v) (q : Q v vs led)
  (hs : subscripted slice false (.ref d) (.bytes b t) = operate [.ref d, .bytes b t] (getItem (.ref d) (.bytes b t))) : Run Γ vs led (subscriptTail value slice (.ref d) (.bytes b t)) Q := by subst hw; exact B6E hm hv q hs
theorem B6M {pl : Sem Bool} {Q : Value × List Value → A0e → Led → Prop} {d : Addr} {kvs : List (By × Value)} (hw : Γ.w = w) (hm : (d, LObj.bdict w kvs) ∈ led) (q : Q (.builtin "dict.get", [.ref d]) vs led) : Run Γ vs led (getMethod (.ref d) "get" pl) Q := by subst hw; exact B5B hm q
theorem B9z {d : Addr} {kvs : List (By × Value)} {b : Array UInt8} {t : Tok} (hw : Γ.w = w) (hm : (d, LObj.bdict w kvs) ∈ led) (lo : Ok d) (q : Q ((PySem.valueAt kvs b.toList).getD .none) vs led) : Run Γ vs led (call (.builtin "dict.get") [.ref d, .bytes b t]) Q := by subst hw; exact B9E hm lo q
theorem B9A {d : Addr} {kvs : List (By × Value)} {b : Array UInt8} {t : Tok} {Q : Unit → A0e → Led → Prop} (hw : Γ.w = w) (hz : kvs.length ≤ 1000) (hl : (PySem.valueAt kvs b.toList).isSome = true) (U : Upd1 d (.bdict w kvs) (.bdict w (PySem.without kvs b.toList)) led led') (q : Q () vs led') :
  Run Γ vs led (delItem (.ref d) (.bytes b t)) Q := by subst hw; exact B9F hz hl U q
theorem B1L {d : Addr} {kvs : List (By × Value)} (hw : Γ.w = w) (hm : (d, LObj.bdict w kvs) ∈ led) (lo : Ok d) (h64 : kvs.length < 64)
  (q : ∀ D xs ks, BysAre xs ks → ks.Perm (kvs.map (·.1)) → ks.Pairwise (fun a b => ¬ A3m b < A3m a) → Q (.ref D) vs ((D, .list xs) :: led)) : Run Γ vs led (call (.builtin "sorted") [.ref d]) Q := by subst hw; exact A8d hm lo h64 q
theorem B9y {env : Env} {pos : Pos} (hw : Γ.w = w) (q : ∀ a, Ok a → Q (.ref a) vs ((a, .bdict w []) :: led)) : Run Γ vs led (eval (.Dict [] [] pos) env) Q := by subst hw; exact B1e q
end
end Mine
namespace Mine
structure LawCx (Γ : Cx) (c : Addr) : Prop where
 gl : Γ.gl = [.ofString "len", .ofString "_law_draw", .ofString "Net", .ofString "range", .ofString "Machine", .ofString "MemStore", .ofString "Command", .ofString "_law_kinds", .ofString "bytes", .ofString "_law_maybe", .ofString "_law_send", .ofString "_law_hand", .ofString "tuple"]
 cl : Γ.cl = [(.ofString "b", c)]
 kb : Γ.cs.names.lookup (.ofString "b") = some .cell
 nd : Γ.nd = true
theorem LawCx.glo {Γ : Cx} {c : Addr} (h : LawCx Γ c) : Γ.off.gl = [.ofString "len", .ofString "_law_draw", .ofString "Net", .ofString "range", .ofString "Machine", .ofString "MemStore", .ofString "Command", .ofString "_law_kinds", .ofString "bytes", .ofString "_law_maybe", .ofString "_law_send", .ofString "_law_hand", .ofString "tuple"] := h.gl
noncomputable def A0p : List Stmt := match A0T 99 with
 | .FunctionDef _ _ b _ _ _ _ _ _ _ => b
 | _ => []
noncomputable abbrev LV (script x nums a i net machine numbers datas wants states kind word expect old code fresh seat ways t act y lost message way rows : Option Value) : A0e :=
 [("script", script), ("x", x), ("nums", nums), ("a", a), ("i", i), ("net", net), ("machine", machine), ("numbers", numbers), ("datas", datas), ("wants", wants), ("states", states),
   ("kind", kind), ("word", word), ("expect", expect), ("old", old), ("code", code), ("fresh", fresh), ("seat", seat), ("ways", ways), ("t", t), ("act", act), ("y", y), ("lost", lost), ("message", message), ("way", way), ("rows", rows)]
end Mine
namespace Mine
noncomputable abbrev A5W : Ctx := ⟨.builtin "claim.caller" {}, none, none, [], none⟩
theorem A7b : B8q A5W := ⟨by show Builtin.Bytes.decodersThatHold.contains "claim.caller" = false; decide +kernel, fun x hx => by cases hx⟩
theorem A9K {M : Model} {t : Sem Fin} {R : Result → Shared → Prop} {s : Shared} (h : wpM true M callerA t (fun fin s' => ∃ f, fin = .done f ∧ R (.ok f) s') (fun e s' => R (.error e) s') s) (p : Pos) :
  Sem.wp M A5W t (Sem.finPost M A5W R) (fun e _ s' => R (.error e) s') p s :=
 Sem.wp_mono M A5W t (fun fin _ s' ⟨f, e, hf⟩ => by subst e; exact hf) (fun _ _ _ x => x) p s (h A5W p caller_in fun _ => A7b)
theorem B0J {c : ClaimW} {tree : List Value → Sem Fin} {w : World} {s : Shared} {free : Addr → Prop} {gens : Prop} {kept : Heap → Prop} (hz : s.asleep) (hgens : s.gens = #[])
  (hspec : ∀ args, c.pre args = true → WData.layableAll args = true → ∀ ord : List DictEntry → List DictEntry, (∀ l, (ord l).Perm l) →
   ∃ vs s₁, layAllW c.records (classAt s.heap) w.params ord args s = some (vs, s₁) ∧
    wpM true (model c.prog w) callerA (tree vs) (fun fin s' => ∃ f, fin = .done f ∧ (c.Ends s args vs s₁ (.ok f) s' ∧ s'.os = s.os ∧ AllBare s'.gens ∧ kept s'.heap))
     (fun e s' => c.Ends s args vs s₁ (.error e) s' ∧ s'.os = s.os ∧ AllBare s'.gens ∧ kept s'.heap) s₁) :
  c.CallFrom (fun vs => ⟨tree vs, .builtin "claim.caller" {}, default, []⟩) w free gens kept s := by
 intro args hpre hlay ord hord
 obtain ⟨vs, s₁, hlaid, hcode⟩ := hspec args hpre hlay ord hord
 have hal := layAllW_rest _ _ _ hlaid
 let R : Result → Shared → Prop := fun r s' => c.Ends s args vs s₁ r s' ∧ s'.os = s.os ∧ kept s'.heap
 have hw : wpM true (model c.prog w) callerA (tree vs) (fun fin s' => ∃ f, fin = .done f ∧ (R (.ok f) s' ∧ leftWithCleanup s'.gens = false)) (fun e s' => R (.error e) s' ∧ leftWithCleanup s'.gens = false) s₁ :=
  A2S hcode (fun fin s' ⟨f, e, a, b, d, k⟩ => ⟨f, e, ⟨a, b, k⟩, leftWithCleanup_false_of_bare d⟩) fun e s' ⟨a, b, d, k⟩ => ⟨⟨a, b, k⟩, leftWithCleanup_false_of_bare d⟩
 obtain ⟨n, r, s'', s', hsched, hrun, hfo, hcase, hos, hkp⟩ := wp_halts_full (M := model c.prog w) (R := R) (Shared.asleep_of_life hal.2.2.2 hz) (A9K (R := fun r s' => R r s' ∧ leftWithCleanup s'.gens = false) hw default)
 obtain ⟨eh, _, _, eo, _⟩ := Shared.forget_eq hfo
 have hcase := hcase.congr eh
 have hkp' : kept s'.heap := by rw [eh]; exact hkp
 rw [← eo] at hos
 have hlife : s'.heap.life = s.heap.life := (runN_life _ _ _ hrun).trans hal.2.2.2
 refine ⟨vs, s₁, hlaid, n, _, s', hsched, ?_, (fun _ i x hx => by rw [hgens] at hx; simp at hx), hkp', by rw [hlife], Shared.rest_eq hos⟩
 rcases hcase with ⟨v, rfl, d1, d2, d3, d4, d5⟩ | ⟨e, ob, cls, rfl, d1, d2, d3, d4, d5⟩
 ·exact .inl ⟨v, rfl, d1, d2, d3, fun b o y _ => d4 b o y, d5⟩
 ·exact .inr ⟨e, ob, cls, rfl, d1, d2, d3, d4, fun b o y _ => d5 b o y⟩
noncomputable abbrev B8h (q : Program) (loose : List Str) (XP : (Str → Option Value) → Heap → Prop) (YP : World → Heap → Prop) (r : RowW) (d : DefRec) (kwd : List (Str × Expr)) : Prop :=
 ∀ (w : World) (s₀ s₁ : Shared) (mg mb : Str → Option Value), Ground q loose r.records XP w s₀ mg mb s₁.heap → YP w s₁.heap → ∀ (a : Addr) (o : Obj) (pm cd doc dV kV : Value), s₁.heap.get? a = some o →
  o.data = .func { docDef d.name d.params d.body d.scope pm cd doc with defaults := dV, kwdefaults := kV } → s₁.heap.CodeRec cd d.name → Dflts mg s₁.heap d.params kwd dV kV → mg d.name = some (.ref a) → s₁.gens = #[] →
  ∀ (args : List WData) (vals : List Value) (as : List Addr), r.claim.pre args = true → WData.layableAll args = true → ReadsAllW r.records (classAt s₀.heap) s₁.heap vals args as → WellAll w.params s₁.heap vals args → (∀ a ∈ as, (a == sysModules) = false) →
   wpM true (model r.prog w) callerA (call (.ref a) vals) (fun v s' => GoodWG r.claim (classAt s₀.heap) (ExcName.means s₀.heap) args s₁ (.ok (.ret v)) s')
    (fun e s' => GoodWG r.claim (classAt s₀.heap) (ExcName.means s₀.heap) args s₁ (.error e) s') s₁
theorem PySem.W.holds_open {r : OpenRow} {q : Program} {loose : List Str} {Xt : Shared → Bool} {XP : (Str → Option Value) → Heap → Prop} {α : Type} {Yf : Shared → α} {Ya : World → α} {YP : World → Heap → Prop} {d : DefRec} {kwd : List (Str × Expr)} {N : Nat}
  (left : LeftO r.prog q loose Xt Yf Ya N) (hY : ∀ w s, Yf s = Ya w → YP w s.heap) (hYk : ∀ w h h', YP w h → (∀ b o, h.get? b = some o → h'.get? b = some o) → YP w h')
  (hX : ∀ s, Xt s = true → XP (s.heap.nsMap mainGlobals) s.heap) (hXk : ∀ mg h h', XP mg h → (∀ b o, h.get? b = some o → h'.get? b = some o) → XP mg h')
  (hdef : defOf q r.name = some (d, kwd)) (hp : r.prog.theDef r.name = some (d.params, d.body, d.scope)) (hk : kwWritten? d.params.kwonlyargs d.params.kw_defaults = some kwd) (hRf : ∀ s, Xt s = true → RecFacts r.records s.heap) (hwr : (!r.writes || r.records.isEmpty) = true)
  (k1 : r.wellSaid = true) (ok : (chainsOk q && opensWell r.prog && (frees r.toRowW && r.within.isEmpty)) = true) (hb : r.prog.bare) (hw : r.toRowW.promised)
  (walk : B8h q loose XP YP r.toRowW d kwd) : r.Holds := by
 simp only [Bool.and_eq_true] at ok
 obtain ⟨⟨hch, o1⟩, k5, k6⟩ := ok
 obtain ⟨hsame, hu, ha, hap, hm⟩ := frees_parts k5
 have hwi : r.toRowW.claim.within = [] := List.isEmpty_iff.mp k6
 have both : ∀ s, Xt s = true → XP (s.heap.nsMap mainGlobals) s.heap ∧ RecFacts r.records s.heap := fun s e => ⟨hX s e, hRf s e⟩
 refine ⟨k1, hw, ⟨hb, o1, by show r.makers.map _ = []; rw [hm]; rfl⟩, hw.witness, fun w => ⟨(left.behind hX hch w).1, fun s' hs' => ?_⟩⟩
 obtain ⟨s₀, hf, hg0, s, hT, hz, hgens, hg, G00, y⟩ := (left.behind (XP := fun mg h => XP mg h ∧ RecFacts r.records h) both hch w).2 s' hs'
 have RF := G00.X.2
 have G0 : Ground q loose [] XP w s (s.heap.nsMap mainGlobals) (s.heap.nsMap builtinsNs) s.heap := ⟨G00.T, G00.B, G00.D, G00.TE, G00.TD, G00.W, G00.X.1, G00.cls, G00.has, G00.apart, G00.once, G00.K⟩
 have hT' := hT
 refine ⟨s₀, hf, hg0, s, hT, fun n hn => ?_, RF.1, RF.2.1, ?_⟩
 ·obtain rfl : n = r.name := by split at hn <;> simp_all
  exact pinned_of_view hg G0 hdef hp hk
 have hgens : s.gens = #[] := Array.eq_empty_of_size_eq_zero (beq_iff_eq.mp hgens)
 have G := RF.ground G0
 refine B0J (c := r.toRowW.claim) hz hgens fun args hpre hlay ord hord => ?_
 obtain ⟨⟨vs, s₁⟩, hlaid⟩ := Option.isSome_iff_exists.mp (layAllW_isSome (P := w.params) (ord := ord) G.has args r.args s (pre_splitW hpre).1)
 have keeps := layAllW_keeps _ _ _ hlaid
 have hal := layAllW_rest _ _ _ hlaid
 obtain ⟨as, hrd, hin, hold⟩ := reads_layAllW hord _ _ _ hlaid hlay s₁.heap (fun _ _ e => e)
 have L : Laid r.records w s s₁ args vs as := ⟨⟨ord, hord, hlaid⟩, hrd, hin, hold, keeps, hal.1.trans hgens, hal.2.2.1⟩
 have G₁ := G.keeps hXk keeps
 have hi := ident_freeW hu ha hap
 obtain ⟨a, o, pm, cd, doc, dV, kV, h1, h2, h3, h4, h5⟩ := G₁.fn hdef
 have H := walk w s s₁ _ _ G₁ (hYk _ _ _ (hY w s y) keeps) a o pm cd doc dV kV h2 h3 h4 h5 (defOf_name hdef ▸ h1) L.gens args vs as hpre hlay L.reads L.well (L.low G.low)
 refine ⟨vs, s₁, hlaid, A0f (A0v (wpAny_nsGet G₁.T.g ?_))⟩
 rw [h1]
 refine A0f (A2S H (fun v s' g => A0v (wpAny_pure ⟨_, rfl, ?_⟩)) fun e s' g => ?_)
 ·have z := g.laid (c := r.toRowW.claim) hsame hwi hi L
  exact ⟨z.1, z.2.1, z.2.2, fun q => ⟨namesKept_of hT' hg _ keeps g.2.1.old, noTable hwr q⟩⟩
 ·have z := g.laid (c := r.toRowW.claim) hsame hwi hi L
  exact ⟨z.1, z.2.1, z.2.2, fun q => ⟨namesKept_of hT' hg _ keeps g.2.1.old, noTable hwr q⟩⟩
end Mine
namespace Mine
noncomputable abbrev B8s : OpenRow := PySem.Challenge.rw_nz0379_01.row
theorem B1H {cl : Str → Option Addr} {h : Heap} {P : Params} {args : List WData} {vals : List Value} {as : List Addr} (hpre : B8s.toRowW.claim.pre args = true) (hlay : WData.layableAll args = true) (hrd : ReadsAllW B8s.toRowW.records cl h vals args as) (hwl : WellAll P h vals args) (hlo : ∀ a ∈ as, (a == sysModules) = false) :
  ∃ sc xs ns, vals = [.ref sc] ∧ h.IsList sc xs.toArray ∧ IntsAre xs ns ∧ xs.length ≤ 63 := by
 wrow_args hpre hlay hrd hwl hlo
 rename_i hL ra w1 r0 hI hr hc1 hc2
 exact ⟨_, _, _, rfl, hL, hI, by have := hI.length; omega⟩
theorem B1E {args : List WData} {cl : Str → Option Addr} {mean : ExcName → Option Value} {s₁ s' : Shared} (hk : ∀ b o, s₁.heap.get? b = some o → s'.heap.get? b = some o) (hos : s'.os = s₁.os) (hg : s'.gens = #[]) : GoodWG B8s.toRowW.claim cl mean args s₁ (.ok (.ret (.bool true))) s' := by
 refine GoodW.toG ⟨.inl ⟨_, _, [], rfl, raisesW_false ?_, .bool true, ?_, fun _ => ⟨List.nodup_nil, nofun⟩⟩, hk, hos, hg⟩
 ·wrow_none_raised
 ·exact postW_of (by wrow_shape) (by wtm_val) (by w_fin)
noncomputable def A5M : Arguments := match A0T 99 with
 | .FunctionDef _ a _ _ _ _ _ _ _ _ => a
 | _ => default
noncomputable def A1M : Scope := match A0T 99 with
 | .FunctionDef _ _ _ _ _ _ sc _ _ _ => sc
 | _ => default
noncomputable def A8h : List Str := [.ofString "x", .ofString "nums", .ofString "a", .ofString "i", .ofString "net", .ofString "machine", .ofString "numbers", .ofString "datas", .ofString "wants", .ofString "states", .ofString "kind", .ofString "word", .ofString "expect", .ofString "old", .ofString "code", .ofString "fresh", .ofString "seat", .ofString "ways", .ofString "t", .ofString "act", .ofString "y", .ofString "lost", .ofString "message", .ofString "way", .ofString "rows"]
noncomputable def B6x : List Str := [.ofString "len", .ofString "_law_draw", .ofString "Net", .ofString "range", .ofString "Machine", .ofString "MemStore", .ofString "Command", .ofString "_law_kinds", .ofString "bytes", .ofString "_law_maybe", .ofString "_law_send", .ofString "_law_hand", .ofString "tuple"]
theorem B3Z : B8t A1M ("script" :: A8h) B6x = true := by kernel_rfl
theorem B6q : A1M.names.lookup (.ofString "b") = some .cell := by kernel_rfl
theorem A7w (n : Nat) : cellsFrom n A1M.names [] = [(.ofString "b", n)] := by kernel_rfl
theorem B1G (sc : Addr) (pm cd doc : Value) : bindArgs { docDef (.ofString "law") A5M A0p A1M pm cd doc with defaults := .none, kwdefaults := .none } ⟨[.ref sc], []⟩ = pure [(.ofString "script", .ref sc)] := by kernel_rfl
theorem B0i : A5M.defaults = [] := by kernel_rfl
theorem B1F (hall : ∀ (Γ : Cx) (sc c : Addr) (xs : List Value) (ns : List Int), Low Γ 0 → LawCx Γ c → Γ.h₀.IsList sc xs.toArray → IntsAre xs ns → xs.length ≤ 63 →
   Do Γ (LV (some (.ref sc)) none none none none none none none none none none none none none none none none none none none none none none none none none) ((c, .cell none) :: []) [A0p] fun fl _ _ => A2b fl = .bool true)
  {q : Program} {loose : List Str} {XP : (Str → Option Value) → Heap → Prop} {d : DefRec} {kwd : List (Str × Expr)} (hn : d.name = "law") (hp : d.params = A5M) (hb : d.body = A0p) (hs : d.scope = A1M) (hkw : kwd = []) :
  B8h q loose XP (Hook.says (kHook kf ka A6g)) B8s.toRowW d kwd := by
 intro w s₀ s₁ mg mb G Y fa o pm cd doc dV kV ho hd hcd hD hmg hg args vals as hpre hlay hrd hwl hlo
 have KX := kIn_of Y
 obtain ⟨sc, xs, ns, rfl, hL, hI, hz⟩ := B1H hpre hlay hrd hwl hlo
 obtain rfl : dV = .none := by
  rcases hD.pos with ⟨_, h⟩ | ⟨h, _⟩
  ·exact h
  ·exact absurd (by rw [hp]; exact B0i) h
 obtain rfl : kV = .none := by
  rcases hD.kw with ⟨_, h⟩ | ⟨h, _⟩
  ·exact h
  ·exact absurd hkw h
 rw [hn, hp, hb, hs] at hd
 rw [hn] at hcd
 refine Ground.open G ?_
 intro T B D TE TW
 have hT : TopR mg mb s₁.heap := ⟨_, _, topRead_of T⟩
 have hc := B3Z
 simp only [B8t, Bool.and_eq_true, decide_eq_true_eq, List.all_eq_true, Bool.not_eq_true'] at hc
 obtain ⟨⟨⟨⟨⟨c1, c2⟩, c3⟩, c4⟩, c5⟩, c6⟩ := hc
 refine A1E (A5i (body := A0p) (by decide) ho hd c4 c5 rfl hcd (BindsTo.of_eq (B1G sc pm cd doc) _ _ _ _ (wpAny_newFunctionEnv_cells (s := s₁) c6 (fun x hx => ?_) fun env he s' x => ?_)))
 ·rcases List.mem_singleton.mp hx with rfl
  exact .inl (c2 _ (.head _)).1
 subst he
 obtain ⟨h₁, tk₁, rfl, _⟩ := x.toInCall.done
 have hk₁ : ∀ b o, s₁.heap.get? b = some o → h₁.get? b = some o := x.toInCall.keep
 refine ⟨hT.nolimit.keeps hk₁, A5h ?_⟩
 have hcell : h₁.IsCell (s₁.heap.objs.size + 1) none := by
  have := x.cell "b" (s₁.heap.objs.size + 1) (by
   show List.lookup (Str.ofString "b") (cellsFrom (s₁.heap.objs.size + 1) A1M.names []) = _
   rw [A7w]; simp [List.lookup_cons])
  exact this
 obtain ⟨oc, hoc, hdc⟩ := hcell
 let Γ' : Cx := { nd := true, w := w, mean := fun _ => none, mg := mg, mb := mb, dp := callerA.depth + 1, un := callerA.units + 3, gd := callerA.guards, cn := .ofString "law", cs := A1M, L := s₁.heap.objs.size, a := fa, ccd := cd, outer := [], A₀ := callerA, base := s₁.heap, h₀ := s₁.heap, gens := s₁.gens, drawn := s₁.drawn, os := s₁.os, gl := B6x, cl := [(.ofString "b", s₁.heap.objs.size + 1)] }
 have S' : St Γ' h₁ (A0U [("script", .ref sc)] A8h) [(s₁.heap.objs.size + 1, .cell none)] := by
  refine { B := below_caller s₁.heap, F := ⟨?_, hk₁, Nat.le_refl _⟩, X := KX, T := hT, hk := c6, N := ⟨[(s₁.heap.objs.size + 1, oc)], .cons hdc .nil, fun p hp => ?_⟩, nd := by simp, nv := c1, hl := fun x hx => c2 x hx, hg := fun x hx => c3 x hx }
  ·have := x.toInCall.ns
   rw [A5Y (binds := [(.ofString "script", .ref sc)]) (more := A8h) c1]
   have e : bindL (fun z => A1M.names.lookup z) [(.ofString "script", .ref sc)] (fun _ => none) = fun y => ([(.ofString "script", .ref sc)] : List (Str × Value)).reverse.lookup y := by
    rw [A8X]
    funext z
    rw [List.filter_cons, (c2 "script" (.head _)).1]
    simp
   rw [← e]
   exact this
  ·rcases List.mem_singleton.mp hp with rfl
   refine ⟨hoc, Nat.ne_of_gt (Nat.lt_succ_self _), ?_⟩
   show s₁.heap.get? (s₁.heap.objs.size + 1) = none
   cases q : s₁.heap.get? (s₁.heap.objs.size + 1) with
   | none => rfl
   | some o => exact absurd (Heap.lt_size q) (Nat.not_lt.mpr (Nat.le_succ _))
 have H := hall Γ' sc (s₁.heap.objs.size + 1) xs ns ⟨Nat.le_of_ble_eq_true rfl, Nat.le_of_ble_eq_true rfl, rfl⟩ ⟨rfl, rfl, B6q, rfl⟩ hL hI hz
 have he : newEnv A1M s₁.heap.objs.size mainGlobals (cellsFrom (s₁.heap.objs.size + 1) A1M.names []) (Str.ofString "law" ++ ".<locals>.") (some fa) cd none builtinsNs = Γ'.env := by
  rw [A7w]; rfl
 show wpM true _ (Around.deeper _ (newEnv A1M s₁.heap.objs.size mainGlobals (cellsFrom (s₁.heap.objs.size + 1) A1M.names []) (Str.ofString "law" ++ ".<locals>.") (some fa) cd none builtinsNs)) (execs A0p (newEnv A1M s₁.heap.objs.size mainGlobals (cellsFrom (s₁.heap.objs.size + 1) A1M.names []) (Str.ofString "law" ++ ".<locals>.") (some fa) cd none builtinsNs)) _ _ _
 rw [he]
 refine Run.use H S' fun fl h' tk' vs' led' S'' q => ?_
 have q' : A2b fl = .bool true := by cases fl <;> exact q
 rw [q']
 exact B1E S''.F.keep rfl hg
end Mine
open Mine
namespace MineT
noncomputable def ob (c : Value) (l : List Value) : Obj := { cls := c, data := .fields l.toArray }
noncomputable def tu (l : List Value) : Obj := { cls := .type "tuple", data := .seq l.toArray }
noncomputable def cd (n q : String) (t : Tok) (l u : Int) (t' : Tok) (r : List Value) : Obj :=
 { cls := .type "code", data := .fields (.str (.ofString n) t :: .str (.ofString q) (t + 1) :: .str "/claim/cut.py" (t + 2) :: .int l 0 :: (r ++ [.int u 0, .int l 0, .str "/claim/cut.py" t'])).toArray }
noncomputable def cf (n q : String) (t : Tok) (l u : Int) (t' : Tok) (a : Int) (k : Nat) : Obj := cd n q t l u t' [.int a 0, .int 0 0, .int 0 0, .int 3 0, .ref k, .bool true, .int 181 0, .ref (k + 1), .none, .ref (k + 2), .ref (k + 3), .ref (k + 4)]
noncomputable def cc (n q : String) (t : Tok) (l u : Int) (t' : Tok) (k : Nat) : Obj := cd n q t l u t' [.int 0 0, .int 0 0, .int 0 0, .int 0 0, .ref k, .bool false, .int 181 0, .ref (k + 1), .none, .none, .none, .none]
noncomputable def su (k : Nat) : Obj := ob (.type "super") [.ref k, .ref k, .ref k]
noncomputable def bm (l : List Value) : Obj := ob (.type "builtin_function_or_method") l
noncomputable def rf (q : Str) : Stmt → Obj
 | .FunctionDef name args body _ _ _ scope _ _ _ => { cls := .none, data := .func { name := name, qualname := q, params := args, body := .stmts body, scope := scope, globals := 0, closure := [], defaults := .none, kwdefaults := .none } }
 | _ => default
noncomputable def cl (q : Str) (bases mro : List Value) (ns : Addr) (subs : List Value) (sl : List (Option Value)) : Obj :=
 { cls := .type "type", data := .cls { name := q, bases := bases, mro := mro, ns := ns, qualname := q, subclasses := subs }, slots := sl.toArray }
noncomputable def ns (c : Value) (P : Params) (l : List (Str × Tok × Value)) (n : Nat) : Obj := { cls := c, data := .dict (nsE P l).toArray n }
noncomputable def nd (P : Params) (l : List (Str × Tok × Value)) (n : Nat) : Obj := ns (.type "dict") P l n
noncomputable def pl (c : Value) (sl : List (Option Value)) : Obj := { cls := c, slots := sl.toArray }
noncomputable def B4j {α : Type} : List α → List α
 | [] => []
 | [x] => [x]
 | x :: _ :: r => x :: B4j r
noncomputable def mkT : Nat → List Obj → BT
 | 0, _ => .nil
 | _, [] => .nil
 | n + 1, o :: l => .node o (mkT n (B4j l)) (mkT n (B4j l.tail))
noncomputable def tD : List (Str × Tok × Value) := ([ke "__doc__" 166 (.none), ke "__package__" 167 (.none), ke "__loader__" 168 (.builtin "__main__.__loader__#opaque"), ke "__spec__" 169 (.none), ke "__annotations__" 170 (.ref 6), ke "__builtins__" 171 (.ref 4), ke "__file__" 173 (vs "/claim/cut.py" 172), ke "__cached__" 174 (.none), ke "_wall" 193 (.ref 21), ke "KeepError" 215 (.ref 31), ke "StoreError" 231 (.ref 44), ke "Corrupt" 247 (.ref 56), ke "ShortOctets" 263 (.ref 68), ke "BadOption" 279 (.ref 80), ke "BatchRefused" 295 (.ref 92), ke "ServeError" 311 (.ref 104), ke "BadCommand" 327 (.ref 116), ke "AppliedGap" 343 (.ref 128), ke "MAX_32" 347 (.int 4294967295 346), ke "MAX_64" 349 (.int 18446744073709551615 348), ke "write_groups" 358 (.ref 137), ke "read_groups" 372 (.ref 144), ke "put_varint" 379 (.ref 151), ke "read_varint" 387 (.ref 158), ke "put_varint32" 394 (.ref 165), ke "read_varint32" 402 (.ref 172), ke "varint_length" 410 (.ref 179), ke "put_fixed32" 417 (.ref 186), ke "put_fixed64" 424 (.ref 193), ke "read_fixed32" 432 (.ref 200), ke "read_fixed64" 440 (.ref 207), ke "read_lengthed" 449 (.ref 214), ke "Cursor" 554 (.ref 295), ke "Sink" 645 (.ref 372), ke "MSG_PIECE" 649 (.int 20 648), ke "ENTRY_NORMAL" 651 (.int 0 650), ke "ENTRY_CONF" 653 (.int 2 652), ke "rising" 662 (.ref 383), ke "take_count" 670 (.ref 390), ke "Entry" 735 (.ref 435)] ++ ([ke "encode_entry" 743 (.ref 446), ke "decode_entry" 755 (.ref 453), ke "ConfState" 806 (.ref 484), ke "put_ids" 815 (.ref 495), ke "take_ids" 825 (.ref 502), ke "encode_conf" 833 (.ref 509), ke "decode_conf" 846 (.ref 516), ke "Snapshot" 902 (.ref 554), ke "encode_snapshot" 910 (.ref 565), ke "decode_snapshot" 922 (.ref 572), ke "Message" 977 (.ref 599), ke "encode_message" 986 (.ref 610), ke "decode_message" 999 (.ref 617), ke "FATE_KEEP" 1003 (.int 0 1002), ke "FATE_LOSE" 1005 (.int 1 1004), ke "FATE_TWICE" 1007 (.int 2 1006), ke "FATE_FIRST" 1009 (.int 3 1008), ke "FATE_LATE" 1011 (.int 4 1010), ke "FATE_COUNT" 1013 (.int 5 1012), ke "LATE_BY" 1015 (.int 2 1014), ke "Net" 1193 (.ref 747), ke "KIND_DELETE" 1197 (.int 0 1196), ke "KIND_VALUE" 1199 (.int 1 1198), ke "MAX_SEQ" 1201 (.int 72057594037927935 1200), ke "BATCH_HEAD" 1203 (.int 12 1202), ke "WriteBatch" 1310 (.ref 831), ke "check_span" 1318 (.ref 842), ke "CMD_NONE" 1322 (.int 0 1321), ke "CMD_PUT" 1324 (.int 1 1323), ke "CMD_DELETE" 1326 (.int 2 1325), ke "CMD_CAS" 1328 (.int 3 1327), ke "CMD_OPEN" 1330 (.int 5 1329), ke "CMD_CLOSE" 1332 (.int 6 1331), ke "REPLY_OK" 1334 (.int 0 1333), ke "REPLY_NO" 1336 (.int 1 1335), ke "REPLY_UNKNOWN" 1338 (.int 2 1337), ke "REPLY_STALE" 1340 (.int 3 1339), ke "APPLIED_KEY" 1342 (.bytes #[97] 1341), ke "DATA_HEAD" 1344 (.bytes #[100] 1343), ke "DATA_END" 1346 (.bytes #[101] 1345)] ++ [ke "SESSION_HEAD" 1348 (.bytes #[115] 1347), ke "SESSION_END" 1350 (.bytes #[116] 1349), ke "Command" 1404 (.ref 873), ke "put_maybe" 1412 (.ref 884), ke "take_maybe" 1419 (.ref 891), ke "decode_command" 1433 (.ref 898), ke "make_reply" 1442 (.ref 905), ke "data_key" 1449 (.ref 912), ke "session_key" 1457 (.ref 919), ke "client_of" 1466 (.ref 926), ke "encode_session" 1476 (.ref 933), ke "decode_session" 1487 (.ref 940), ke "Machine" 1661 (.ref 1055), ke "same_maybe" 1669 (.ref 1066), ke "MemStore" 1765 (.ref 1132), ke "_law_kinds" 1773 (.ref 1143), ke "_law_draw" 1781 (.ref 1150), ke "_law_maybe" 1788 (.ref 1157), ke "_law_send" 1798 (.ref 1164), ke "_law_hand" 1815 (.ref 1171), ke "law" 1821 (.ref 1176)]))
noncomputable def t3 : List (Int × Nat) → List Value
 | [] => []
 | (a, b) :: r => .int a 0 :: .int 0 0 :: .ref b :: t3 r
noncomputable def tF : List Value := t3 [(1, 20), (5, 27), (7, 40), (9, 52), (11, 64), (13, 76), (15, 88), (17, 100), (19, 112), (21, 124), (26, 136), (35, 143), (52, 150), (56, 157), (60, 164), (64, 171), (68, 178), (76, 185), (80, 192), (84, 199), (88, 206), (92, 213), (97, 220), (158, 305), (199, 382), (205, 389), (210, 396), (231, 445), (238, 452), (248, 459), (262, 494), (266, 501), (274, 508), (282, 515), (291, 522), (307, 564), (314, 571), (322, 578), (357, 609), (376, 616), (404, 623), (526, 757), (571, 841), (590, 848), (617, 883), (621, 890), (625, 897), (640, 904), (645, 911), (647, 918), (650, 925), (655, 932), (661, 939), (668, 946), (787, 1065), (791, 1072), (845, 1142), (847, 1149), (849, 1156), (853, 1163), (858, 1170), (880, 1175)]
noncomputable def B9c (P : Params) : List Obj := [
 cc "<module>" "<module>" 182 1 185 186 11,
 pl (.type "frame") [some (.ref 13), some (.ref 3), some (.ref 3), none, some (vs "__main__" 164), none, some (.ref 0)]]
noncomputable def tP0 (P : Params) : List Obj := B9c P
noncomputable def B9b (P : Params) : List Obj := [
 tu [],
 ob .none [],
 tu [vs "k" 190],
 tu [],
 rf "_wall" (A0T 0),
 cf "_wall" "_wall" 187 1 191 192 1 15,
 fnO "_wall" (vs "__main__" 164) (.none) 20 (A0T 0),
 tu [.type "Exception"],
 bm [.builtin "type.__prepare__", .type "type"],
 nd P [ke "__module__" 203 (vs "raftkeep.errors" 194), ke "__qualname__" 205 (vs "KeepError" 204), ke "__firstlineno__" 207 (.int 5 206), ke "__static_attributes__" 208 (.ref 29)] 4,
 tu [],
 ob .none [],
 cc "KeepError" "KeepError" 198 5 201 202 25,
 pl (.type "frame") [some (.ref 27), some (.ref 3), some (.ref 24), none, some (vs "raftkeep.errors" 194), none, some (.ref 0)],
 tu [],
 nd P [ke "__module__" 203 (vs "raftkeep.errors" 194), ke "__firstlineno__" 207 (.int 5 206), ke "__static_attributes__" 208 (.ref 29), ke "__weakref__" 210 (.ref 32), ke "__doc__" 211 (.none)] 3,
 cl "KeepError" [.type "Exception"] [.ref 31, .type "Exception", .type "BaseException", .type "object"] 30 [.ref 44, .ref 104] [some (.ref 22), none, some (vs "KeepError" 196), some (vs "KeepError" 204), some (.builtin "Exception.__new__"), some (.bool true)],
 ob (.type "getset_descriptor") [vs "__weakref__" 209, .ref 31, .builtin "ExceptionGroup.__weakref__", .none],
 su 31,
 bm [.builtin "object.__init_subclass__", .ref 31],
 tu [.ref 31],
 bm [.builtin "type.__prepare__", .type "type"],
 nd P [ke "__module__" 223 (vs "raftkeep.errors" 194), ke "__qualname__" 225 (vs "StoreError" 224), ke "__firstlineno__" 227 (.int 7 226), ke "__static_attributes__" 228 (.ref 42)] 4,
 tu [],
 ob .none [],
 cc "StoreError" "StoreError" 218 7 221 222 38,
 pl (.type "frame") [some (.ref 40), some (.ref 3), some (.ref 37), none, some (vs "raftkeep.errors" 194), none, some (.ref 0)],
 tu [],
 nd P [ke "__module__" 223 (vs "raftkeep.errors" 194), ke "__firstlineno__" 227 (.int 7 226), ke "__static_attributes__" 228 (.ref 42), ke "__doc__" 229 (.none)] 2,
 cl "StoreError" [.ref 31] [.ref 44, .ref 31, .type "Exception", .type "BaseException", .type "object"] 43 [.ref 56, .ref 80, .ref 92] [some (.ref 35), none, some (vs "StoreError" 216), some (vs "StoreError" 224), some (.builtin "Exception.__new__"), some (.bool true)],
 su 44,
 bm [.builtin "object.__init_subclass__", .ref 44],
 tu [.ref 44],
 bm [.builtin "type.__prepare__", .type "type"],
 nd P [ke "__module__" 239 (vs "raftkeep.errors" 194), ke "__qualname__" 241 (vs "Corrupt" 240), ke "__firstlineno__" 243 (.int 9 242), ke "__static_attributes__" 244 (.ref 54)] 4,
 tu [],
 ob .none [],
 cc "Corrupt" "Corrupt" 234 9 237 238 50,
 pl (.type "frame") [some (.ref 52), some (.ref 3), some (.ref 49), none, some (vs "raftkeep.errors" 194), none, some (.ref 0)],
 tu [],
 nd P [ke "__module__" 239 (vs "raftkeep.errors" 194), ke "__firstlineno__" 243 (.int 9 242), ke "__static_attributes__" 244 (.ref 54), ke "__doc__" 245 (.none)] 2,
 cl "Corrupt" [.ref 44] [.ref 56, .ref 44, .ref 31, .type "Exception", .type "BaseException", .type "object"] 55 [.ref 68] [some (.ref 47), none, some (vs "Corrupt" 232), some (vs "Corrupt" 240), some (.builtin "Exception.__new__"), some (.bool true)],
 su 56,
 bm [.builtin "object.__init_subclass__", .ref 56],
 tu [.ref 56],
 bm [.builtin "type.__prepare__", .type "type"],
 nd P [ke "__module__" 255 (vs "raftkeep.errors" 194), ke "__qualname__" 257 (vs "ShortOctets" 256), ke "__firstlineno__" 259 (.int 11 258), ke "__static_attributes__" 260 (.ref 66)] 4,
 tu [],
 ob .none [],
 cc "ShortOctets" "ShortOctets" 250 11 253 254 62,
 pl (.type "frame") [some (.ref 64), some (.ref 3), some (.ref 61), none, some (vs "raftkeep.errors" 194), none, some (.ref 0)],
 tu [],
 nd P [ke "__module__" 255 (vs "raftkeep.errors" 194), ke "__firstlineno__" 259 (.int 11 258), ke "__static_attributes__" 260 (.ref 66), ke "__doc__" 261 (.none)] 2,
 cl "ShortOctets" [.ref 56] [.ref 68, .ref 56, .ref 44, .ref 31, .type "Exception", .type "BaseException", .type "object"] 67 [] [some (.ref 59), none, some (vs "ShortOctets" 248), some (vs "ShortOctets" 256), some (.builtin "Exception.__new__"), some (.bool true)],
 su 68,
 bm [.builtin "object.__init_subclass__", .ref 68],
 tu [.ref 44],
 bm [.builtin "type.__prepare__", .type "type"],
 nd P [ke "__module__" 271 (vs "raftkeep.errors" 194), ke "__qualname__" 273 (vs "BadOption" 272), ke "__firstlineno__" 275 (.int 13 274), ke "__static_attributes__" 276 (.ref 78)] 4,
 tu []]
noncomputable def B9a (P : Params) : List Obj := [
 ob .none [],
 cc "BadOption" "BadOption" 266 13 269 270 74,
 pl (.type "frame") [some (.ref 76), some (.ref 3), some (.ref 73), none, some (vs "raftkeep.errors" 194), none, some (.ref 0)],
 tu [],
 nd P [ke "__module__" 271 (vs "raftkeep.errors" 194), ke "__firstlineno__" 275 (.int 13 274), ke "__static_attributes__" 276 (.ref 78), ke "__doc__" 277 (.none)] 2,
 cl "BadOption" [.ref 44] [.ref 80, .ref 44, .ref 31, .type "Exception", .type "BaseException", .type "object"] 79 [] [some (.ref 71), none, some (vs "BadOption" 264), some (vs "BadOption" 272), some (.builtin "Exception.__new__"), some (.bool true)],
 su 80,
 bm [.builtin "object.__init_subclass__", .ref 80],
 tu [.ref 44],
 bm [.builtin "type.__prepare__", .type "type"],
 nd P [ke "__module__" 287 (vs "raftkeep.errors" 194), ke "__qualname__" 289 (vs "BatchRefused" 288), ke "__firstlineno__" 291 (.int 15 290), ke "__static_attributes__" 292 (.ref 90)] 4,
 tu [],
 ob .none [],
 cc "BatchRefused" "BatchRefused" 282 15 285 286 86,
 pl (.type "frame") [some (.ref 88), some (.ref 3), some (.ref 85), none, some (vs "raftkeep.errors" 194), none, some (.ref 0)],
 tu [],
 nd P [ke "__module__" 287 (vs "raftkeep.errors" 194), ke "__firstlineno__" 291 (.int 15 290), ke "__static_attributes__" 292 (.ref 90), ke "__doc__" 293 (.none)] 2,
 cl "BatchRefused" [.ref 44] [.ref 92, .ref 44, .ref 31, .type "Exception", .type "BaseException", .type "object"] 91 [] [some (.ref 83), none, some (vs "BatchRefused" 280), some (vs "BatchRefused" 288), some (.builtin "Exception.__new__"), some (.bool true)],
 su 92,
 bm [.builtin "object.__init_subclass__", .ref 92],
 tu [.ref 31],
 bm [.builtin "type.__prepare__", .type "type"],
 nd P [ke "__module__" 303 (vs "raftkeep.errors" 194), ke "__qualname__" 305 (vs "ServeError" 304), ke "__firstlineno__" 307 (.int 17 306), ke "__static_attributes__" 308 (.ref 102)] 4,
 tu [],
 ob .none [],
 cc "ServeError" "ServeError" 298 17 301 302 98,
 pl (.type "frame") [some (.ref 100), some (.ref 3), some (.ref 97), none, some (vs "raftkeep.errors" 194), none, some (.ref 0)],
 tu [],
 nd P [ke "__module__" 303 (vs "raftkeep.errors" 194), ke "__firstlineno__" 307 (.int 17 306), ke "__static_attributes__" 308 (.ref 102), ke "__doc__" 309 (.none)] 2,
 cl "ServeError" [.ref 31] [.ref 104, .ref 31, .type "Exception", .type "BaseException", .type "object"] 103 [.ref 116, .ref 128] [some (.ref 95), none, some (vs "ServeError" 296), some (vs "ServeError" 304), some (.builtin "Exception.__new__"), some (.bool true)],
 su 104,
 bm [.builtin "object.__init_subclass__", .ref 104],
 tu [.ref 104],
 bm [.builtin "type.__prepare__", .type "type"],
 nd P [ke "__module__" 319 (vs "raftkeep.errors" 194), ke "__qualname__" 321 (vs "BadCommand" 320), ke "__firstlineno__" 323 (.int 19 322), ke "__static_attributes__" 324 (.ref 114)] 4,
 tu [],
 ob .none [],
 cc "BadCommand" "BadCommand" 314 19 317 318 110,
 pl (.type "frame") [some (.ref 112), some (.ref 3), some (.ref 109), none, some (vs "raftkeep.errors" 194), none, some (.ref 0)],
 tu [],
 nd P [ke "__module__" 319 (vs "raftkeep.errors" 194), ke "__firstlineno__" 323 (.int 19 322), ke "__static_attributes__" 324 (.ref 114), ke "__doc__" 325 (.none)] 2,
 cl "BadCommand" [.ref 104] [.ref 116, .ref 104, .ref 31, .type "Exception", .type "BaseException", .type "object"] 115 [] [some (.ref 107), none, some (vs "BadCommand" 312), some (vs "BadCommand" 320), some (.builtin "Exception.__new__"), some (.bool true)],
 su 116,
 bm [.builtin "object.__init_subclass__", .ref 116],
 tu [.ref 104],
 bm [.builtin "type.__prepare__", .type "type"],
 nd P [ke "__module__" 335 (vs "raftkeep.errors" 194), ke "__qualname__" 337 (vs "AppliedGap" 336), ke "__firstlineno__" 339 (.int 21 338), ke "__static_attributes__" 340 (.ref 126)] 4,
 tu [],
 ob .none [],
 cc "AppliedGap" "AppliedGap" 330 21 333 334 122,
 pl (.type "frame") [some (.ref 124), some (.ref 3), some (.ref 121), none, some (vs "raftkeep.errors" 194), none, some (.ref 0)],
 tu [],
 nd P [ke "__module__" 335 (vs "raftkeep.errors" 194), ke "__firstlineno__" 339 (.int 21 338), ke "__static_attributes__" 340 (.ref 126), ke "__doc__" 341 (.none)] 2,
 cl "AppliedGap" [.ref 104] [.ref 128, .ref 104, .ref 31, .type "Exception", .type "BaseException", .type "object"] 127 [] [some (.ref 119), none, some (vs "AppliedGap" 328), some (vs "AppliedGap" 336), some (.builtin "Exception.__new__"), some (.bool true)],
 su 128,
 bm [.builtin "object.__init_subclass__", .ref 128]]
noncomputable def tP1 (P : Params) : List Obj := B9b P ++ B9a P
noncomputable def B8Z (P : Params) : List Obj := [
 tu [],
 ob .none [],
 tu [vs "n" 353, vs "most" 354, vs "out" 355],
 tu [],
 rf "write_groups" (A0T 14),
 cf "write_groups" "write_groups" 350 26 356 357 2 131,
 fnO "write_groups" (vs "raftkeep.octets" 344) (.none) 136 (A0T 14),
 tu [],
 ob .none [],
 tu [vs "data" 362, vs "at" 363, vs "octets" 364, vs "most" 365, vs "n" 366, vs "shift" 367, vs "turn" 368, vs "octet" 369],
 tu [],
 rf "read_groups" (A0T 15),
 cf "read_groups" "read_groups" 359 35 370 371 4 138,
 fnO "read_groups" (vs "raftkeep.octets" 344) (.none) 143 (A0T 15),
 tu [],
 ob .none [],
 tu [vs "n" 376],
 tu [],
 rf "put_varint" (A0T 16),
 cf "put_varint" "put_varint" 373 52 377 378 1 145,
 fnO "put_varint" (vs "raftkeep.octets" 344) (.none) 150 (A0T 16),
 tu [],
 ob .none [],
 tu [vs "data" 383, vs "at" 384],
 tu [],
 rf "read_varint" (A0T 17),
 cf "read_varint" "read_varint" 380 56 385 386 2 152,
 fnO "read_varint" (vs "raftkeep.octets" 344) (.none) 157 (A0T 17),
 tu [],
 ob .none [],
 tu [vs "n" 391],
 tu [],
 rf "put_varint32" (A0T 18),
 cf "put_varint32" "put_varint32" 388 60 392 393 1 159,
 fnO "put_varint32" (vs "raftkeep.octets" 344) (.none) 164 (A0T 18),
 tu [],
 ob .none [],
 tu [vs "data" 398, vs "at" 399],
 tu [],
 rf "read_varint32" (A0T 19),
 cf "read_varint32" "read_varint32" 395 64 400 401 2 166,
 fnO "read_varint32" (vs "raftkeep.octets" 344) (.none) 171 (A0T 19),
 tu [],
 ob .none [],
 tu [vs "n" 406, vs "count" 407],
 tu [],
 rf "varint_length" (A0T 20),
 cf "varint_length" "varint_length" 403 68 408 409 1 173,
 fnO "varint_length" (vs "raftkeep.octets" 344) (.none) 178 (A0T 20),
 tu [],
 ob .none [],
 tu [vs "n" 414],
 tu [],
 rf "put_fixed32" (A0T 21),
 cf "put_fixed32" "put_fixed32" 411 76 415 416 1 180,
 fnO "put_fixed32" (vs "raftkeep.octets" 344) (.none) 185 (A0T 21),
 tu [],
 ob .none [],
 tu [vs "n" 421],
 tu []]
noncomputable def B8Y (P : Params) : List Obj := [
 rf "put_fixed64" (A0T 22),
 cf "put_fixed64" "put_fixed64" 418 80 422 423 1 187,
 fnO "put_fixed64" (vs "raftkeep.octets" 344) (.none) 192 (A0T 22),
 tu [],
 ob .none [],
 tu [vs "data" 428, vs "at" 429],
 tu [],
 rf "read_fixed32" (A0T 23),
 cf "read_fixed32" "read_fixed32" 425 84 430 431 2 194,
 fnO "read_fixed32" (vs "raftkeep.octets" 344) (.none) 199 (A0T 23),
 tu [],
 ob .none [],
 tu [vs "data" 436, vs "at" 437],
 tu [],
 rf "read_fixed64" (A0T 24),
 cf "read_fixed64" "read_fixed64" 433 88 438 439 2 201,
 fnO "read_fixed64" (vs "raftkeep.octets" 344) (.none) 206 (A0T 24),
 tu [],
 ob .none [],
 tu [vs "data" 444, vs "at" 445, vs "count" 446],
 tu [],
 rf "read_lengthed" (A0T 25),
 cf "read_lengthed" "read_lengthed" 441 92 447 448 2 208,
 fnO "read_lengthed" (vs "raftkeep.octets" 344) (.none) 213 (A0T 25),
 tu [],
 bm [.builtin "type.__prepare__", .type "type"],
 nd P [ke "__module__" 457 (vs "raftkeep.octets" 344), ke "__qualname__" 459 (vs "Cursor" 458), ke "__firstlineno__" 461 (.int 97 460), ke "__init__" 471 (.ref 229), ke "left" 478 (.ref 236), ke "varint" 487 (.ref 243), ke "fixed32" 495 (.ref 250), ke "fixed64" 503 (.ref 257), ke "lengthed" 512 (.ref 264), ke "octet" 520 (.ref 271), ke "flag" 528 (.ref 278), ke "take" 537 (.ref 285), ke "done" 544 (.ref 292), ke "__static_attributes__" 547 (.ref 293)] 14,
 tu [],
 ob .none [.int 99 0, .int 4 0, .ref 228, .int 105 0, .int 4 0, .ref 235, .int 108 0, .int 4 0, .ref 242, .int 117 0, .int 4 0, .ref 249, .int 122 0, .int 4 0, .ref 256, .int 127 0, .int 4 0, .ref 263, .int 132 0, .int 4 0, .ref 270, .int 139 0, .int 4 0, .ref 277, .int 148 0, .int 4 0, .ref 284, .int 155 0, .int 4 0, .ref 291],
 cc "Cursor" "Cursor" 452 97 455 456 218,
 pl (.type "frame") [some (.ref 220), some (.ref 3), some (.ref 217), none, some (vs "raftkeep.octets" 344), none, some (.ref 0)],
 tu [.int 0 462],
 tu [],
 ob .none [],
 tu [vs "self" 466, vs "data" 467, vs "at" 468],
 tu [],
 rf "Cursor.__init__" (A0j 26 0),
 cf "__init__" "Cursor.__init__" 463 99 469 470 3 223,
 fnO "Cursor.__init__" (vs "raftkeep.octets" 344) (.ref 222) 228 (A0j 26 0),
 tu [],
 ob .none [],
 tu [vs "self" 475],
 tu [],
 rf "Cursor.left" (A0j 26 1),
 cf "left" "Cursor.left" 472 105 476 477 1 230,
 fnO "Cursor.left" (vs "raftkeep.octets" 344) (.none) 235 (A0j 26 1),
 tu [],
 ob .none [],
 tu [vs "self" 482, vs "at" 483, vs "n" 484],
 tu [],
 rf "Cursor.varint" (A0j 26 2),
 cf "varint" "Cursor.varint" 479 108 485 486 1 237,
 fnO "Cursor.varint" (vs "raftkeep.octets" 344) (.none) 242 (A0j 26 2),
 tu [],
 ob .none [],
 tu [vs "self" 491, vs "n" 492],
 tu [],
 rf "Cursor.fixed32" (A0j 26 3),
 cf "fixed32" "Cursor.fixed32" 488 117 493 494 1 244,
 fnO "Cursor.fixed32" (vs "raftkeep.octets" 344) (.none) 249 (A0j 26 3)]
noncomputable def B8X (P : Params) : List Obj := [
 tu [],
 ob .none [],
 tu [vs "self" 499, vs "n" 500],
 tu [],
 rf "Cursor.fixed64" (A0j 26 4),
 cf "fixed64" "Cursor.fixed64" 496 122 501 502 1 251,
 fnO "Cursor.fixed64" (vs "raftkeep.octets" 344) (.none) 256 (A0j 26 4),
 tu [],
 ob .none [],
 tu [vs "self" 507, vs "b" 508, vs "at" 509],
 tu [],
 rf "Cursor.lengthed" (A0j 26 5),
 cf "lengthed" "Cursor.lengthed" 504 127 510 511 1 258,
 fnO "Cursor.lengthed" (vs "raftkeep.octets" 344) (.none) 263 (A0j 26 5),
 tu [],
 ob .none [],
 tu [vs "self" 516, vs "n" 517],
 tu [],
 rf "Cursor.octet" (A0j 26 6),
 cf "octet" "Cursor.octet" 513 132 518 519 1 265,
 fnO "Cursor.octet" (vs "raftkeep.octets" 344) (.none) 270 (A0j 26 6),
 tu [],
 ob .none [],
 tu [vs "self" 524, vs "n" 525],
 tu [],
 rf "Cursor.flag" (A0j 26 7),
 cf "flag" "Cursor.flag" 521 139 526 527 1 272,
 fnO "Cursor.flag" (vs "raftkeep.octets" 344) (.none) 277 (A0j 26 7),
 tu [],
 ob .none [],
 tu [vs "self" 532, vs "n" 533, vs "b" 534],
 tu [],
 rf "Cursor.take" (A0j 26 8),
 cf "take" "Cursor.take" 529 148 535 536 2 279,
 fnO "Cursor.take" (vs "raftkeep.octets" 344) (.none) 284 (A0j 26 8),
 tu [],
 ob .none [],
 tu [vs "self" 541],
 tu [],
 rf "Cursor.done" (A0j 26 9),
 cf "done" "Cursor.done" 538 155 542 543 1 286,
 fnO "Cursor.done" (vs "raftkeep.octets" 344) (.none) 291 (A0j 26 9),
 tu [vs "at" 545, vs "data" 546],
 nd P [ke "__module__" 457 (vs "raftkeep.octets" 344), ke "__firstlineno__" 461 (.int 97 460), ke "__init__" 471 (.ref 229), ke "left" 478 (.ref 236), ke "varint" 487 (.ref 243), ke "fixed32" 495 (.ref 250), ke "fixed64" 503 (.ref 257), ke "lengthed" 512 (.ref 264), ke "octet" 520 (.ref 271), ke "flag" 528 (.ref 278), ke "take" 537 (.ref 285), ke "done" 544 (.ref 292), ke "__static_attributes__" 547 (.ref 293), ke "__dict__" 549 (.ref 296), ke "__weakref__" 551 (.ref 297), ke "__doc__" 552 (.none)] 4,
 cl "Cursor" [.type "object"] [.ref 295, .type "object"] 294 [] [none, none, some (vs "Cursor" 450), some (vs "Cursor" 458), some (.builtin "object.__new__"), some (.bool true)],
 ob (.type "getset_descriptor") [vs "__dict__" 548, .ref 295, .builtin "function.__dict__", .builtin "function.__dict__#set"],
 ob (.type "getset_descriptor") [vs "__weakref__" 550, .ref 295, .builtin "ExceptionGroup.__weakref__", .none],
 su 295,
 bm [.builtin "object.__init_subclass__", .ref 295],
 tu [],
 bm [.builtin "type.__prepare__", .type "type"],
 nd P [ke "__module__" 562 (vs "raftkeep.octets" 344), ke "__qualname__" 564 (vs "Sink" 563), ke "__firstlineno__" 566 (.int 158 565), ke "__init__" 573 (.ref 313), ke "varint" 581 (.ref 320), ke "fixed32" 589 (.ref 327), ke "fixed64" 597 (.ref 334), ke "lengthed" 605 (.ref 341), ke "octet" 613 (.ref 348), ke "flag" 621 (.ref 355), ke "raw" 629 (.ref 362), ke "done" 636 (.ref 369), ke "__static_attributes__" 638 (.ref 370)] 13,
 tu [],
 ob .none [.int 160 0, .int 4 0, .ref 312, .int 163 0, .int 4 0, .ref 319, .int 169 0, .int 4 0, .ref 326, .int 172 0, .int 4 0, .ref 333, .int 175 0, .int 4 0, .ref 340, .int 179 0, .int 4 0, .ref 347, .int 184 0, .int 4 0, .ref 354, .int 190 0, .int 4 0, .ref 361, .int 193 0, .int 4 0, .ref 368],
 cc "Sink" "Sink" 557 158 560 561 303,
 pl (.type "frame") [some (.ref 305), some (.ref 3), some (.ref 302), none, some (vs "raftkeep.octets" 344), none, some (.ref 0)],
 tu [],
 ob .none [],
 tu [vs "self" 570],
 tu []]
noncomputable def B8W (P : Params) : List Obj := [
 rf "Sink.__init__" (A0j 27 0),
 cf "__init__" "Sink.__init__" 567 160 571 572 1 307,
 fnO "Sink.__init__" (vs "raftkeep.octets" 344) (.none) 312 (A0j 27 0),
 tu [],
 ob .none [],
 tu [vs "self" 577, vs "n" 578],
 tu [],
 rf "Sink.varint" (A0j 27 1),
 cf "varint" "Sink.varint" 574 163 579 580 2 314,
 fnO "Sink.varint" (vs "raftkeep.octets" 344) (.none) 319 (A0j 27 1),
 tu [],
 ob .none [],
 tu [vs "self" 585, vs "n" 586],
 tu [],
 rf "Sink.fixed32" (A0j 27 2),
 cf "fixed32" "Sink.fixed32" 582 169 587 588 2 321,
 fnO "Sink.fixed32" (vs "raftkeep.octets" 344) (.none) 326 (A0j 27 2),
 tu [],
 ob .none [],
 tu [vs "self" 593, vs "n" 594],
 tu [],
 rf "Sink.fixed64" (A0j 27 3),
 cf "fixed64" "Sink.fixed64" 590 172 595 596 2 328,
 fnO "Sink.fixed64" (vs "raftkeep.octets" 344) (.none) 333 (A0j 27 3),
 tu [],
 ob .none [],
 tu [vs "self" 601, vs "b" 602],
 tu [],
 rf "Sink.lengthed" (A0j 27 4),
 cf "lengthed" "Sink.lengthed" 598 175 603 604 2 335,
 fnO "Sink.lengthed" (vs "raftkeep.octets" 344) (.none) 340 (A0j 27 4),
 tu [],
 ob .none [],
 tu [vs "self" 609, vs "n" 610],
 tu [],
 rf "Sink.octet" (A0j 27 5),
 cf "octet" "Sink.octet" 606 179 611 612 2 342,
 fnO "Sink.octet" (vs "raftkeep.octets" 344) (.none) 347 (A0j 27 5),
 tu [],
 ob .none [],
 tu [vs "self" 617, vs "b" 618],
 tu [],
 rf "Sink.flag" (A0j 27 6),
 cf "flag" "Sink.flag" 614 184 619 620 2 349,
 fnO "Sink.flag" (vs "raftkeep.octets" 344) (.none) 354 (A0j 27 6),
 tu [],
 ob .none [],
 tu [vs "self" 625, vs "b" 626],
 tu [],
 rf "Sink.raw" (A0j 27 7),
 cf "raw" "Sink.raw" 622 190 627 628 2 356,
 fnO "Sink.raw" (vs "raftkeep.octets" 344) (.none) 361 (A0j 27 7),
 tu [],
 ob .none [],
 tu [vs "self" 633],
 tu [],
 rf "Sink.done" (A0j 27 8),
 cf "done" "Sink.done" 630 193 634 635 1 363,
 fnO "Sink.done" (vs "raftkeep.octets" 344) (.none) 368 (A0j 27 8),
 tu [vs "parts" 637]]
noncomputable def B8V (P : Params) : List Obj := [
 nd P [ke "__module__" 562 (vs "raftkeep.octets" 344), ke "__firstlineno__" 566 (.int 158 565), ke "__init__" 573 (.ref 313), ke "varint" 581 (.ref 320), ke "fixed32" 589 (.ref 327), ke "fixed64" 597 (.ref 334), ke "lengthed" 605 (.ref 341), ke "octet" 613 (.ref 348), ke "flag" 621 (.ref 355), ke "raw" 629 (.ref 362), ke "done" 636 (.ref 369), ke "__static_attributes__" 638 (.ref 370), ke "__dict__" 640 (.ref 373), ke "__weakref__" 642 (.ref 374), ke "__doc__" 643 (.none)] 4,
 cl "Sink" [.type "object"] [.ref 372, .type "object"] 371 [] [none, none, some (vs "Sink" 555), some (vs "Sink" 563), some (.builtin "object.__new__"), some (.bool true)],
 ob (.type "getset_descriptor") [vs "__dict__" 639, .ref 372, .builtin "function.__dict__", .builtin "function.__dict__#set"],
 ob (.type "getset_descriptor") [vs "__weakref__" 641, .ref 372, .builtin "ExceptionGroup.__weakref__", .none],
 su 372,
 bm [.builtin "object.__init_subclass__", .ref 372],
 tu [],
 ob .none [],
 tu [vs "ids" 657, vs "out" 658, vs "nid" 659],
 tu [],
 rf "rising" (A0T 32),
 cf "rising" "rising" 654 199 660 661 1 377,
 fnO "rising" (vs "raftkeep.messages" 646) (.none) 382 (A0T 32),
 tu [],
 ob .none [],
 tu [vs "cursor" 666, vs "count" 667],
 tu [],
 rf "take_count" (A0T 33),
 cf "take_count" "take_count" 663 205 668 669 1 384,
 fnO "take_count" (vs "raftkeep.messages" 646) (.none) 389 (A0T 33)]
noncomputable def tP2 (P : Params) : List Obj := B8Z P ++ B8Y P ++ B8X P ++ B8W P ++ B8V P
noncomputable def B8U (P : Params) : List Obj := [
 tu [],
 bm [.builtin "type.__prepare__", .type "type"],
 nd P [ke "__module__" 678 (vs "raftkeep.messages" 646), ke "__qualname__" 680 (vs "Entry" 679), ke "__firstlineno__" 682 (.int 210 681), ke "__init__" 693 (.ref 404), ke "row" 700 (.ref 411), ke "copy" 707 (.ref 418), ke "payload" 714 (.ref 425), ke "size" 723 (.ref 432), ke "__static_attributes__" 728 (.ref 433)] 9,
 tu [],
 ob .none [.int 212 0, .int 4 0, .ref 403, .int 218 0, .int 4 0, .ref 410, .int 221 0, .int 4 0, .ref 417, .int 224 0, .int 4 0, .ref 424, .int 227 0, .int 4 0, .ref 431],
 cc "Entry" "Entry" 673 210 676 677 394,
 pl (.type "frame") [some (.ref 396), some (.ref 3), some (.ref 393), none, some (vs "raftkeep.messages" 646), none, some (.ref 0)],
 tu [],
 ob .none [],
 tu [vs "self" 686, vs "term" 687, vs "index" 688, vs "kind" 689, vs "data" 690],
 tu [],
 rf "Entry.__init__" (A0j 34 0),
 cf "__init__" "Entry.__init__" 683 212 691 692 5 398,
 fnO "Entry.__init__" (vs "raftkeep.messages" 646) (.none) 403 (A0j 34 0),
 tu [],
 ob .none [],
 tu [vs "self" 697],
 tu [],
 rf "Entry.row" (A0j 34 1),
 cf "row" "Entry.row" 694 218 698 699 1 405,
 fnO "Entry.row" (vs "raftkeep.messages" 646) (.none) 410 (A0j 34 1),
 tu [],
 ob .none [],
 tu [vs "self" 704],
 tu [],
 rf "Entry.copy" (A0j 34 2),
 cf "copy" "Entry.copy" 701 221 705 706 1 412,
 fnO "Entry.copy" (vs "raftkeep.messages" 646) (.none) 417 (A0j 34 2),
 tu [],
 ob .none [],
 tu [vs "self" 711],
 tu [],
 rf "Entry.payload" (A0j 34 3),
 cf "payload" "Entry.payload" 708 224 712 713 1 419,
 fnO "Entry.payload" (vs "raftkeep.messages" 646) (.none) 424 (A0j 34 3),
 tu [],
 ob .none [],
 tu [vs "self" 718, vs "length" 719, vs "head" 720],
 tu [],
 rf "Entry.size" (A0j 34 4),
 cf "size" "Entry.size" 715 227 721 722 1 426,
 fnO "Entry.size" (vs "raftkeep.messages" 646) (.none) 431 (A0j 34 4),
 tu [vs "data" 724, vs "index" 725, vs "kind" 726, vs "term" 727],
 nd P [ke "__module__" 678 (vs "raftkeep.messages" 646), ke "__firstlineno__" 682 (.int 210 681), ke "__init__" 693 (.ref 404), ke "row" 700 (.ref 411), ke "copy" 707 (.ref 418), ke "payload" 714 (.ref 425), ke "size" 723 (.ref 432), ke "__static_attributes__" 728 (.ref 433), ke "__dict__" 730 (.ref 436), ke "__weakref__" 732 (.ref 437), ke "__doc__" 733 (.none)] 4,
 cl "Entry" [.type "object"] [.ref 435, .type "object"] 434 [] [none, none, some (vs "Entry" 671), some (vs "Entry" 679), some (.builtin "object.__new__"), some (.bool true)],
 ob (.type "getset_descriptor") [vs "__dict__" 729, .ref 435, .builtin "function.__dict__", .builtin "function.__dict__#set"],
 ob (.type "getset_descriptor") [vs "__weakref__" 731, .ref 435, .builtin "ExceptionGroup.__weakref__", .none],
 su 435,
 bm [.builtin "object.__init_subclass__", .ref 435],
 tu [],
 ob .none [],
 tu [vs "entry" 739, vs "sink" 740],
 tu [],
 rf "encode_entry" (A0T 35),
 cf "encode_entry" "encode_entry" 736 231 741 742 1 440,
 fnO "encode_entry" (vs "raftkeep.messages" 646) (.none) 445 (A0T 35),
 tu [],
 ob .none [],
 tu [vs "data" 747, vs "cursor" 748, vs "term" 749, vs "index" 750, vs "kind" 751, vs "body" 752],
 tu []]
noncomputable def B8T (P : Params) : List Obj := [
 rf "decode_entry" (A0T 36),
 cf "decode_entry" "decode_entry" 744 238 753 754 1 447,
 fnO "decode_entry" (vs "raftkeep.messages" 646) (.none) 452 (A0T 36),
 tu [],
 bm [.builtin "type.__prepare__", .type "type"],
 nd P [ke "__module__" 763 (vs "raftkeep.messages" 646), ke "__qualname__" 765 (vs "ConfState" 764), ke "__firstlineno__" 767 (.int 248 766), ke "__init__" 779 (.ref 467), ke "row" 786 (.ref 474), ke "copy" 793 (.ref 481), ke "__static_attributes__" 799 (.ref 482)] 7,
 tu [],
 ob .none [.int 250 0, .int 4 0, .ref 466, .int 257 0, .int 4 0, .ref 473, .int 260 0, .int 4 0, .ref 480],
 cc "ConfState" "ConfState" 758 248 761 762 457,
 pl (.type "frame") [some (.ref 459), some (.ref 3), some (.ref 456), none, some (vs "raftkeep.messages" 646), none, some (.ref 0)],
 tu [],
 ob .none [],
 tu [vs "self" 771, vs "voters" 772, vs "learners" 773, vs "outgoing" 774, vs "learners_next" 775, vs "auto_leave" 776],
 tu [],
 rf "ConfState.__init__" (A0j 37 0),
 cf "__init__" "ConfState.__init__" 768 250 777 778 6 461,
 fnO "ConfState.__init__" (vs "raftkeep.messages" 646) (.none) 466 (A0j 37 0),
 tu [],
 ob .none [],
 tu [vs "self" 783],
 tu [],
 rf "ConfState.row" (A0j 37 1),
 cf "row" "ConfState.row" 780 257 784 785 1 468,
 fnO "ConfState.row" (vs "raftkeep.messages" 646) (.none) 473 (A0j 37 1),
 tu [],
 ob .none [],
 tu [vs "self" 790],
 tu [],
 rf "ConfState.copy" (A0j 37 2),
 cf "copy" "ConfState.copy" 787 260 791 792 1 475,
 fnO "ConfState.copy" (vs "raftkeep.messages" 646) (.none) 480 (A0j 37 2),
 tu [vs "auto_leave" 794, vs "learners" 795, vs "learners_next" 796, vs "outgoing" 797, vs "voters" 798],
 nd P [ke "__module__" 763 (vs "raftkeep.messages" 646), ke "__firstlineno__" 767 (.int 248 766), ke "__init__" 779 (.ref 467), ke "row" 786 (.ref 474), ke "copy" 793 (.ref 481), ke "__static_attributes__" 799 (.ref 482), ke "__dict__" 801 (.ref 485), ke "__weakref__" 803 (.ref 486), ke "__doc__" 804 (.none)] 4,
 cl "ConfState" [.type "object"] [.ref 484, .type "object"] 483 [] [none, none, some (vs "ConfState" 756), some (vs "ConfState" 764), some (.builtin "object.__new__"), some (.bool true)],
 ob (.type "getset_descriptor") [vs "__dict__" 800, .ref 484, .builtin "function.__dict__", .builtin "function.__dict__#set"],
 ob (.type "getset_descriptor") [vs "__weakref__" 802, .ref 484, .builtin "ExceptionGroup.__weakref__", .none],
 su 484,
 bm [.builtin "object.__init_subclass__", .ref 484],
 tu [],
 ob .none [],
 tu [vs "sink" 810, vs "ids" 811, vs "nid" 812],
 tu [],
 rf "put_ids" (A0T 38),
 cf "put_ids" "put_ids" 807 262 813 814 2 489,
 fnO "put_ids" (vs "raftkeep.messages" 646) (.none) 494 (A0T 38),
 tu [],
 ob .none [],
 tu [vs "cursor" 819, vs "out" 820, vs "_" 821, vs "nid" 822],
 tu [],
 rf "take_ids" (A0T 39),
 cf "take_ids" "take_ids" 816 266 823 824 1 496,
 fnO "take_ids" (vs "raftkeep.messages" 646) (.none) 501 (A0T 39),
 tu [],
 ob .none [],
 tu [vs "conf" 829, vs "sink" 830],
 tu [],
 rf "encode_conf" (A0T 40),
 cf "encode_conf" "encode_conf" 826 274 831 832 1 503,
 fnO "encode_conf" (vs "raftkeep.messages" 646) (.none) 508 (A0T 40),
 tu []]
noncomputable def B8S (P : Params) : List Obj := [
 ob .none [],
 tu [vs "data" 837, vs "cursor" 838, vs "voters" 839, vs "learners" 840, vs "outgoing" 841, vs "learners_next" 842, vs "auto_leave" 843],
 tu [],
 rf "decode_conf" (A0T 41),
 cf "decode_conf" "decode_conf" 834 282 844 845 1 510,
 fnO "decode_conf" (vs "raftkeep.messages" 646) (.none) 515 (A0T 41),
 tu [],
 bm [.builtin "type.__prepare__", .type "type"],
 nd P [ke "__module__" 854 (vs "raftkeep.messages" 646), ke "__qualname__" 856 (vs "Snapshot" 855), ke "__firstlineno__" 858 (.int 291 857), ke "__init__" 869 (.ref 530), ke "row" 876 (.ref 537), ke "empty" 883 (.ref 544), ke "copy" 890 (.ref 551), ke "__static_attributes__" 895 (.ref 552)] 8,
 tu [],
 ob .none [.int 293 0, .int 4 0, .ref 529, .int 299 0, .int 4 0, .ref 536, .int 302 0, .int 4 0, .ref 543, .int 305 0, .int 4 0, .ref 550],
 cc "Snapshot" "Snapshot" 849 291 852 853 520,
 pl (.type "frame") [some (.ref 522), some (.ref 3), some (.ref 519), none, some (vs "raftkeep.messages" 646), none, some (.ref 0)],
 tu [],
 ob .none [],
 tu [vs "self" 862, vs "index" 863, vs "term" 864, vs "conf" 865, vs "data" 866],
 tu [],
 rf "Snapshot.__init__" (A0j 42 0),
 cf "__init__" "Snapshot.__init__" 859 293 867 868 5 524,
 fnO "Snapshot.__init__" (vs "raftkeep.messages" 646) (.none) 529 (A0j 42 0),
 tu [],
 ob .none [],
 tu [vs "self" 873],
 tu [],
 rf "Snapshot.row" (A0j 42 1),
 cf "row" "Snapshot.row" 870 299 874 875 1 531,
 fnO "Snapshot.row" (vs "raftkeep.messages" 646) (.none) 536 (A0j 42 1),
 tu [],
 ob .none [],
 tu [vs "self" 880],
 tu [],
 rf "Snapshot.empty" (A0j 42 2),
 cf "empty" "Snapshot.empty" 877 302 881 882 1 538,
 fnO "Snapshot.empty" (vs "raftkeep.messages" 646) (.none) 543 (A0j 42 2),
 tu [],
 ob .none [],
 tu [vs "self" 887],
 tu [],
 rf "Snapshot.copy" (A0j 42 3),
 cf "copy" "Snapshot.copy" 884 305 888 889 1 545,
 fnO "Snapshot.copy" (vs "raftkeep.messages" 646) (.none) 550 (A0j 42 3),
 tu [vs "conf" 891, vs "data" 892, vs "index" 893, vs "term" 894],
 nd P [ke "__module__" 854 (vs "raftkeep.messages" 646), ke "__firstlineno__" 858 (.int 291 857), ke "__init__" 869 (.ref 530), ke "row" 876 (.ref 537), ke "empty" 883 (.ref 544), ke "copy" 890 (.ref 551), ke "__static_attributes__" 895 (.ref 552), ke "__dict__" 897 (.ref 555), ke "__weakref__" 899 (.ref 556), ke "__doc__" 900 (.none)] 4,
 cl "Snapshot" [.type "object"] [.ref 554, .type "object"] 553 [] [none, none, some (vs "Snapshot" 847), some (vs "Snapshot" 855), some (.builtin "object.__new__"), some (.bool true)],
 ob (.type "getset_descriptor") [vs "__dict__" 896, .ref 554, .builtin "function.__dict__", .builtin "function.__dict__#set"],
 ob (.type "getset_descriptor") [vs "__weakref__" 898, .ref 554, .builtin "ExceptionGroup.__weakref__", .none],
 su 554,
 bm [.builtin "object.__init_subclass__", .ref 554],
 tu [],
 ob .none [],
 tu [vs "snapshot" 906, vs "sink" 907],
 tu [],
 rf "encode_snapshot" (A0T 43),
 cf "encode_snapshot" "encode_snapshot" 903 307 908 909 1 559,
 fnO "encode_snapshot" (vs "raftkeep.messages" 646) (.none) 564 (A0T 43),
 tu [],
 ob .none [],
 tu [vs "data" 914, vs "cursor" 915, vs "index" 916, vs "term" 917, vs "conf" 918, vs "body" 919],
 tu [],
 rf "decode_snapshot" (A0T 44)]
noncomputable def B8R (P : Params) : List Obj := [
 cf "decode_snapshot" "decode_snapshot" 911 314 920 921 1 566,
 fnO "decode_snapshot" (vs "raftkeep.messages" 646) (.none) 571 (A0T 44),
 tu [],
 bm [.builtin "type.__prepare__", .type "type"],
 nd P [ke "__module__" 930 (vs "raftkeep.messages" 646), ke "__qualname__" 932 (vs "Message" 931), ke "__firstlineno__" 934 (.int 322 933), ke "__init__" 945 (.ref 586), ke "row" 951 (.ref 591), ke "copy" 957 (.ref 596), ke "__static_attributes__" 970 (.ref 597)] 7,
 tu [],
 ob .none [.int 324 0, .int 4 0, .ref 585, .int 338 0, .int 4 0, .ref 590, .int 345 0, .int 4 0, .ref 595],
 cc "Message" "Message" 925 322 928 929 576,
 pl (.type "frame") [some (.ref 578), some (.ref 3), some (.ref 575), none, some (vs "raftkeep.messages" 646), none, some (.ref 0)],
 tu [],
 ob .none [],
 tu [vs "self" 938, vs "kind" 939, vs "to" 940, vs "frm" 941, vs "term" 942],
 tu [],
 rf "Message.__init__" (A0j 45 0),
 cf "__init__" "Message.__init__" 935 324 943 944 5 580,
 fnO "Message.__init__" (vs "raftkeep.messages" 646) (.none) 585 (A0j 45 0),
 tu [],
 ob .none [],
 rf "Message.row" (A0j 45 1),
 cd "row" "Message.row" 946 338 949 950 [.int 1 0, .int 0 0, .int 0 0, .int 3 0, .ref 587, .bool true, .int 181 0, .ref 588, .none, .none, .none, .ref 589],
 fnO "Message.row" (vs "raftkeep.messages" 646) (.none) 590 (A0j 45 1),
 tu [],
 ob .none [],
 rf "Message.copy" (A0j 45 2),
 cd "copy" "Message.copy" 952 345 955 956 [.int 1 0, .int 0 0, .int 0 0, .int 3 0, .ref 592, .bool true, .int 181 0, .ref 593, .none, .none, .none, .ref 594],
 fnO "Message.copy" (vs "raftkeep.messages" 646) (.none) 595 (A0j 45 2),
 tu [vs "commit" 958, vs "context" 959, vs "entries" 960, vs "frm" 961, vs "index" 962, vs "kind" 963, vs "log_term" 964, vs "reject" 965, vs "reject_hint" 966, vs "snapshot" 967, vs "term" 968, vs "to" 969],
 nd P [ke "__module__" 930 (vs "raftkeep.messages" 646), ke "__firstlineno__" 934 (.int 322 933), ke "__init__" 945 (.ref 586), ke "row" 951 (.ref 591), ke "copy" 957 (.ref 596), ke "__static_attributes__" 970 (.ref 597), ke "__dict__" 972 (.ref 600), ke "__weakref__" 974 (.ref 601), ke "__doc__" 975 (.none)] 4,
 cl "Message" [.type "object"] [.ref 599, .type "object"] 598 [] [none, none, some (vs "Message" 923), some (vs "Message" 931), some (.builtin "object.__new__"), some (.bool true)],
 ob (.type "getset_descriptor") [vs "__dict__" 971, .ref 599, .builtin "function.__dict__", .builtin "function.__dict__#set"],
 ob (.type "getset_descriptor") [vs "__weakref__" 973, .ref 599, .builtin "ExceptionGroup.__weakref__", .none],
 su 599,
 bm [.builtin "object.__init_subclass__", .ref 599],
 tu [],
 ob .none [],
 tu [vs "message" 981, vs "sink" 982, vs "entry" 983],
 tu [],
 rf "encode_message" (A0T 46),
 cf "encode_message" "encode_message" 978 357 984 985 1 604,
 fnO "encode_message" (vs "raftkeep.messages" 646) (.none) 609 (A0T 46),
 tu [],
 ob .none [],
 tu [vs "data" 990, vs "cursor" 991, vs "kind" 992, vs "to" 993, vs "frm" 994, vs "message" 995, vs "_" 996],
 tu [],
 rf "decode_message" (A0T 47),
 cf "decode_message" "decode_message" 987 376 997 998 1 611,
 fnO "decode_message" (vs "raftkeep.messages" 646) (.none) 616 (A0T 47),
 tu [],
 bm [.builtin "type.__prepare__", .type "type"],
 nd P [ke "__module__" 1023 (vs "raftkeep.network" 1000), ke "__qualname__" 1025 (vs "Net" 1024), ke "__firstlineno__" 1027 (.int 404 1026), ke "__init__" 1033 (.ref 629), ke "send" 1044 (.ref 636), ke "send_all" 1052 (.ref 643), ke "fate_of" 1060 (.ref 650), ke "packed" 1069 (.ref 657), ke "again" 1081 (.ref 664), ke "ripen" 1091 (.ref 671), ke "size" 1098 (.ref 678), ke "take" 1109 (.ref 685), ke "peek_rows" 1116 (.ref 692), ke "drop_for" 1122 (.ref 697), ke "quiet" 1129 (.ref 704), ke "cut" 1138 (.ref 711), ke "cut_one" 1147 (.ref 718), ke "part" 1153 (.ref 723), ke "heal" 1160 (.ref 730), ke "calm" 1167 (.ref 737), ke "linked" 1177 (.ref 744), ke "__static_attributes__" 1186 (.ref 745)] 22,
 tu [],
 ob .none [.int 406 0, .int 4 0, .ref 628, .int 416 0, .int 4 0, .ref 635, .int 434 0, .int 4 0, .ref 642, .int 437 0, .int 4 0, .ref 649, .int 442 0, .int 4 0, .ref 656, .int 447 0, .int 4 0, .ref 663, .int 453 0, .int 4 0, .ref 670, .int 462 0, .int 4 0, .ref 677, .int 465 0, .int 4 0, .ref 684, .int 478 0, .int 4 0, .ref 691, .int 481 0, .int 4 0, .ref 696, .int 487 0, .int 4 0, .ref 703, .int 490 0, .int 4 0, .ref 710, .int 494 0, .int 4 0, .ref 717, .int 498 0, .int 4 0, .ref 722, .int 501 0, .int 4 0, .ref 729, .int 505 0, .int 4 0, .ref 736, .int 510 0, .int 4 0, .ref 743],
 cc "Net" "Net" 1018 404 1021 1022 621,
 pl (.type "frame") [some (.ref 623), some (.ref 3), some (.ref 620), none, some (vs "raftkeep.network" 1000), none, some (.ref 0)],
 tu [],
 ob .none [],
 rf "Net.__init__" (A0j 56 0),
 cd "__init__" "Net.__init__" 1028 406 1031 1032 [.int 3 0, .int 0 0, .int 0 0, .int 3 0, .ref 625, .bool true, .int 181 0, .ref 626, .none, .none, .none, .ref 627],
 fnO "Net.__init__" (vs "raftkeep.network" 1000) (.none) 628 (A0j 56 0),
 tu []]
noncomputable def B8Q (P : Params) : List Obj := [
 ob .none [],
 tu [vs "self" 1037, vs "message" 1038, vs "number" 1039, vs "fate" 1040, vs "row" 1041],
 tu [],
 rf "Net.send" (A0j 56 1),
 cf "send" "Net.send" 1034 416 1042 1043 2 630,
 fnO "Net.send" (vs "raftkeep.network" 1000) (.none) 635 (A0j 56 1),
 tu [],
 ob .none [],
 tu [vs "self" 1048, vs "messages" 1049],
 tu [],
 rf "Net.send_all" (A0j 56 2),
 cf "send_all" "Net.send_all" 1045 434 1050 1051 2 637,
 fnO "Net.send_all" (vs "raftkeep.network" 1000) (.none) 642 (A0j 56 2),
 tu [],
 ob .none [],
 tu [vs "self" 1056, vs "number" 1057],
 tu [],
 rf "Net.fate_of" (A0j 56 3),
 cf "fate_of" "Net.fate_of" 1053 437 1058 1059 2 644,
 fnO "Net.fate_of" (vs "raftkeep.network" 1000) (.none) 649 (A0j 56 3),
 tu [],
 ob .none [],
 tu [vs "self" 1064, vs "number" 1065, vs "message" 1066],
 tu [],
 rf "Net.packed" (A0j 56 4),
 cf "packed" "Net.packed" 1061 442 1067 1068 3 651,
 fnO "Net.packed" (vs "raftkeep.network" 1000) (.none) 656 (A0j 56 4),
 tu [],
 ob .none [],
 tu [vs "self" 1073, vs "row" 1074, vs "number" 1075, vs "to" 1076, vs "frm" 1077, vs "payload" 1078],
 tu [],
 rf "Net.again" (A0j 56 5),
 cf "again" "Net.again" 1070 447 1079 1080 2 658,
 fnO "Net.again" (vs "raftkeep.network" 1000) (.none) 663 (A0j 56 5),
 tu [],
 ob .none [],
 tu [vs "self" 1085, vs "number" 1086, vs "still" 1087, vs "row" 1088],
 tu [],
 rf "Net.ripen" (A0j 56 6),
 cf "ripen" "Net.ripen" 1082 453 1089 1090 2 665,
 fnO "Net.ripen" (vs "raftkeep.network" 1000) (.none) 670 (A0j 56 6),
 tu [],
 ob .none [],
 tu [vs "self" 1095],
 tu [],
 rf "Net.size" (A0j 56 7),
 cf "size" "Net.size" 1092 462 1096 1097 1 672,
 fnO "Net.size" (vs "raftkeep.network" 1000) (.none) 677 (A0j 56 7),
 tu [],
 ob .none [],
 tu [vs "self" 1102, vs "k" 1103, vs "row" 1104, vs "to" 1105, vs "frm" 1106],
 tu [],
 rf "Net.take" (A0j 56 8),
 cf "take" "Net.take" 1099 465 1107 1108 2 679,
 fnO "Net.take" (vs "raftkeep.network" 1000) (.none) 684 (A0j 56 8),
 tu [],
 ob .none [],
 tu [vs "self" 1113],
 tu [],
 rf "Net.peek_rows" (A0j 56 9)]
noncomputable def B8P (P : Params) : List Obj := [
 cf "peek_rows" "Net.peek_rows" 1110 478 1114 1115 1 686,
 fnO "Net.peek_rows" (vs "raftkeep.network" 1000) (.none) 691 (A0j 56 9),
 tu [],
 ob .none [],
 rf "Net.drop_for" (A0j 56 10),
 cd "drop_for" "Net.drop_for" 1117 481 1120 1121 [.int 2 0, .int 0 0, .int 0 0, .int 3 0, .ref 693, .bool true, .int 181 0, .ref 694, .none, .none, .none, .ref 695],
 fnO "Net.drop_for" (vs "raftkeep.network" 1000) (.none) 696 (A0j 56 10),
 tu [],
 ob .none [],
 tu [vs "self" 1126],
 tu [],
 rf "Net.quiet" (A0j 56 11),
 cf "quiet" "Net.quiet" 1123 487 1127 1128 1 698,
 fnO "Net.quiet" (vs "raftkeep.network" 1000) (.none) 703 (A0j 56 11),
 tu [],
 ob .none [],
 tu [vs "self" 1133, vs "a" 1134, vs "b" 1135],
 tu [],
 rf "Net.cut" (A0j 56 12),
 cf "cut" "Net.cut" 1130 490 1136 1137 3 705,
 fnO "Net.cut" (vs "raftkeep.network" 1000) (.none) 710 (A0j 56 12),
 tu [],
 ob .none [],
 tu [vs "self" 1142, vs "frm" 1143, vs "to" 1144],
 tu [],
 rf "Net.cut_one" (A0j 56 13),
 cf "cut_one" "Net.cut_one" 1139 494 1145 1146 3 712,
 fnO "Net.cut_one" (vs "raftkeep.network" 1000) (.none) 717 (A0j 56 13),
 tu [],
 ob .none [],
 rf "Net.part" (A0j 56 14),
 cd "part" "Net.part" 1148 498 1151 1152 [.int 2 0, .int 0 0, .int 0 0, .int 3 0, .ref 719, .bool true, .int 181 0, .ref 720, .none, .none, .none, .ref 721],
 fnO "Net.part" (vs "raftkeep.network" 1000) (.none) 722 (A0j 56 14),
 tu [],
 ob .none [],
 tu [vs "self" 1157],
 tu [],
 rf "Net.heal" (A0j 56 15),
 cf "heal" "Net.heal" 1154 501 1158 1159 1 724,
 fnO "Net.heal" (vs "raftkeep.network" 1000) (.none) 729 (A0j 56 15),
 tu [],
 ob .none [],
 tu [vs "self" 1164],
 tu [],
 rf "Net.calm" (A0j 56 16),
 cf "calm" "Net.calm" 1161 505 1165 1166 1 731,
 fnO "Net.calm" (vs "raftkeep.network" 1000) (.none) 736 (A0j 56 16),
 tu [],
 ob .none [],
 tu [vs "self" 1171, vs "frm" 1172, vs "to" 1173, vs "group" 1174],
 tu [],
 rf "Net.linked" (A0j 56 17),
 cf "linked" "Net.linked" 1168 510 1175 1176 3 738,
 fnO "Net.linked" (vs "raftkeep.network" 1000) (.none) 743 (A0j 56 17),
 tu [vs "cuts" 1178, vs "fates" 1179, vs "groups" 1180, vs "late" 1181, vs "lost" 1182, vs "lying" 1183, vs "sent" 1184, vs "wire" 1185],
 nd P [ke "__module__" 1023 (vs "raftkeep.network" 1000), ke "__firstlineno__" 1027 (.int 404 1026), ke "__init__" 1033 (.ref 629), ke "send" 1044 (.ref 636), ke "send_all" 1052 (.ref 643), ke "fate_of" 1060 (.ref 650), ke "packed" 1069 (.ref 657), ke "again" 1081 (.ref 664), ke "ripen" 1091 (.ref 671), ke "size" 1098 (.ref 678), ke "take" 1109 (.ref 685), ke "peek_rows" 1116 (.ref 692), ke "drop_for" 1122 (.ref 697), ke "quiet" 1129 (.ref 704), ke "cut" 1138 (.ref 711), ke "cut_one" 1147 (.ref 718), ke "part" 1153 (.ref 723), ke "heal" 1160 (.ref 730), ke "calm" 1167 (.ref 737), ke "linked" 1177 (.ref 744), ke "__static_attributes__" 1186 (.ref 745), ke "__dict__" 1188 (.ref 748), ke "__weakref__" 1190 (.ref 749), ke "__doc__" 1191 (.none)] 4,
 cl "Net" [.type "object"] [.ref 747, .type "object"] 746 [] [none, none, some (vs "Net" 1016), some (vs "Net" 1024), some (.builtin "object.__new__"), some (.bool true)],
 ob (.type "getset_descriptor") [vs "__dict__" 1187, .ref 747, .builtin "function.__dict__", .builtin "function.__dict__#set"],
 ob (.type "getset_descriptor") [vs "__weakref__" 1189, .ref 747, .builtin "ExceptionGroup.__weakref__", .none],
 su 747]
noncomputable def B8O (P : Params) : List Obj := [
 bm [.builtin "object.__init_subclass__", .ref 747]]
noncomputable def tP3 (P : Params) : List Obj := B8U P ++ B8T P ++ B8S P ++ B8R P ++ B8Q P ++ B8P P ++ B8O P
noncomputable def B8N (P : Params) : List Obj := [
 tu [],
 bm [.builtin "type.__prepare__", .type "type"],
 nd P [ke "__module__" 1211 (vs "raftkeep.keys" 1194), ke "__qualname__" 1213 (vs "WriteBatch" 1212), ke "__firstlineno__" 1215 (.int 526 1214), ke "__init__" 1222 (.ref 765), ke "put" 1231 (.ref 772), ke "delete" 1239 (.ref 779), ke "take_op" 1249 (.ref 786), ke "clear" 1256 (.ref 793), ke "count" 1263 (.ref 800), ke "size" 1270 (.ref 807), ke "append" 1281 (.ref 814), ke "ops" 1288 (.ref 821), ke "encode" 1300 (.ref 828), ke "__static_attributes__" 1303 (.ref 829)] 14,
 tu [],
 ob .none [.int 528 0, .int 4 0, .ref 764, .int 532 0, .int 4 0, .ref 771, .int 535 0, .int 4 0, .ref 778, .int 538 0, .int 4 0, .ref 785, .int 544 0, .int 4 0, .ref 792, .int 547 0, .int 4 0, .ref 799, .int 550 0, .int 4 0, .ref 806, .int 553 0, .int 4 0, .ref 813, .int 557 0, .int 4 0, .ref 820, .int 560 0, .int 4 0, .ref 827],
 cc "WriteBatch" "WriteBatch" 1206 526 1209 1210 755,
 pl (.type "frame") [some (.ref 757), some (.ref 3), some (.ref 754), none, some (vs "raftkeep.keys" 1194), none, some (.ref 0)],
 tu [],
 ob .none [],
 tu [vs "self" 1219],
 tu [],
 rf "WriteBatch.__init__" (A0j 62 0),
 cf "__init__" "WriteBatch.__init__" 1216 528 1220 1221 1 759,
 fnO "WriteBatch.__init__" (vs "raftkeep.keys" 1194) (.none) 764 (A0j 62 0),
 tu [],
 ob .none [],
 tu [vs "self" 1226, vs "key" 1227, vs "value" 1228],
 tu [],
 rf "WriteBatch.put" (A0j 62 1),
 cf "put" "WriteBatch.put" 1223 532 1229 1230 3 766,
 fnO "WriteBatch.put" (vs "raftkeep.keys" 1194) (.none) 771 (A0j 62 1),
 tu [],
 ob .none [],
 tu [vs "self" 1235, vs "key" 1236],
 tu [],
 rf "WriteBatch.delete" (A0j 62 2),
 cf "delete" "WriteBatch.delete" 1232 535 1237 1238 2 773,
 fnO "WriteBatch.delete" (vs "raftkeep.keys" 1194) (.none) 778 (A0j 62 2),
 tu [],
 ob .none [],
 tu [vs "self" 1243, vs "kind" 1244, vs "key" 1245, vs "value" 1246],
 tu [],
 rf "WriteBatch.take_op" (A0j 62 3),
 cf "take_op" "WriteBatch.take_op" 1240 538 1247 1248 4 780,
 fnO "WriteBatch.take_op" (vs "raftkeep.keys" 1194) (.none) 785 (A0j 62 3),
 tu [],
 ob .none [],
 tu [vs "self" 1253],
 tu [],
 rf "WriteBatch.clear" (A0j 62 4),
 cf "clear" "WriteBatch.clear" 1250 544 1254 1255 1 787,
 fnO "WriteBatch.clear" (vs "raftkeep.keys" 1194) (.none) 792 (A0j 62 4),
 tu [],
 ob .none [],
 tu [vs "self" 1260],
 tu [],
 rf "WriteBatch.count" (A0j 62 5),
 cf "count" "WriteBatch.count" 1257 547 1261 1262 1 794,
 fnO "WriteBatch.count" (vs "raftkeep.keys" 1194) (.none) 799 (A0j 62 5),
 tu [],
 ob .none [],
 tu [vs "self" 1267],
 tu [],
 rf "WriteBatch.size" (A0j 62 6),
 cf "size" "WriteBatch.size" 1264 550 1268 1269 1 801,
 fnO "WriteBatch.size" (vs "raftkeep.keys" 1194) (.none) 806 (A0j 62 6),
 tu [],
 ob .none [],
 tu [vs "self" 1274, vs "other" 1275, vs "kind" 1276, vs "key" 1277, vs "value" 1278],
 tu []]
noncomputable def B8M (P : Params) : List Obj := [
 rf "WriteBatch.append" (A0j 62 7),
 cf "append" "WriteBatch.append" 1271 553 1279 1280 2 808,
 fnO "WriteBatch.append" (vs "raftkeep.keys" 1194) (.none) 813 (A0j 62 7),
 tu [],
 ob .none [],
 tu [vs "self" 1285],
 tu [],
 rf "WriteBatch.ops" (A0j 62 8),
 cf "ops" "WriteBatch.ops" 1282 557 1286 1287 1 815,
 fnO "WriteBatch.ops" (vs "raftkeep.keys" 1194) (.none) 820 (A0j 62 8),
 tu [],
 ob .none [],
 tu [vs "self" 1292, vs "seq" 1293, vs "out" 1294, vs "kind" 1295, vs "key" 1296, vs "value" 1297],
 tu [],
 rf "WriteBatch.encode" (A0j 62 9),
 cf "encode" "WriteBatch.encode" 1289 560 1298 1299 2 822,
 fnO "WriteBatch.encode" (vs "raftkeep.keys" 1194) (.none) 827 (A0j 62 9),
 tu [vs "rows" 1301, vs "weight" 1302],
 nd P [ke "__module__" 1211 (vs "raftkeep.keys" 1194), ke "__firstlineno__" 1215 (.int 526 1214), ke "__init__" 1222 (.ref 765), ke "put" 1231 (.ref 772), ke "delete" 1239 (.ref 779), ke "take_op" 1249 (.ref 786), ke "clear" 1256 (.ref 793), ke "count" 1263 (.ref 800), ke "size" 1270 (.ref 807), ke "append" 1281 (.ref 814), ke "ops" 1288 (.ref 821), ke "encode" 1300 (.ref 828), ke "__static_attributes__" 1303 (.ref 829), ke "__dict__" 1305 (.ref 832), ke "__weakref__" 1307 (.ref 833), ke "__doc__" 1308 (.none)] 4,
 cl "WriteBatch" [.type "object"] [.ref 831, .type "object"] 830 [] [none, none, some (vs "WriteBatch" 1204), some (vs "WriteBatch" 1212), some (.builtin "object.__new__"), some (.bool true)],
 ob (.type "getset_descriptor") [vs "__dict__" 1304, .ref 831, .builtin "function.__dict__", .builtin "function.__dict__#set"],
 ob (.type "getset_descriptor") [vs "__weakref__" 1306, .ref 831, .builtin "ExceptionGroup.__weakref__", .none],
 su 831,
 bm [.builtin "object.__init_subclass__", .ref 831],
 tu [],
 ob .none [],
 tu [vs "seq" 1314, vs "count" 1315],
 tu [],
 rf "check_span" (A0T 63),
 cf "check_span" "check_span" 1311 571 1316 1317 2 836,
 fnO "check_span" (vs "raftkeep.keys" 1194) (.none) 841 (A0T 63),
 tu [],
 bm [.builtin "type.__prepare__", .type "type"],
 nd P [ke "__module__" 1358 (vs "raftkeep.commands" 1319), ke "__qualname__" 1360 (vs "Command" 1359), ke "__firstlineno__" 1362 (.int 590 1361), ke "__init__" 1375 (.ref 856), ke "row" 1382 (.ref 863), ke "encode" 1390 (.ref 870), ke "__static_attributes__" 1397 (.ref 871)] 7,
 tu [],
 ob .none [.int 592 0, .int 4 0, .ref 855, .int 600 0, .int 4 0, .ref 862, .int 603 0, .int 4 0, .ref 869],
 cc "Command" "Command" 1353 590 1356 1357 846,
 pl (.type "frame") [some (.ref 848), some (.ref 3), some (.ref 845), none, some (vs "raftkeep.commands" 1319), none, some (.ref 0)],
 tu [],
 ob .none [],
 tu [vs "self" 1366, vs "kind" 1367, vs "client" 1368, vs "number" 1369, vs "key" 1370, vs "value" 1371, vs "expect" 1372],
 tu [],
 rf "Command.__init__" (A0j 80 0),
 cf "__init__" "Command.__init__" 1363 592 1373 1374 7 850,
 fnO "Command.__init__" (vs "raftkeep.commands" 1319) (.none) 855 (A0j 80 0),
 tu [],
 ob .none [],
 tu [vs "self" 1379],
 tu [],
 rf "Command.row" (A0j 80 1),
 cf "row" "Command.row" 1376 600 1380 1381 1 857,
 fnO "Command.row" (vs "raftkeep.commands" 1319) (.none) 862 (A0j 80 1),
 tu [],
 ob .none [],
 tu [vs "self" 1386, vs "sink" 1387],
 tu [],
 rf "Command.encode" (A0j 80 2),
 cf "encode" "Command.encode" 1383 603 1388 1389 1 864,
 fnO "Command.encode" (vs "raftkeep.commands" 1319) (.none) 869 (A0j 80 2),
 tu [vs "client" 1391, vs "expect" 1392, vs "key" 1393, vs "kind" 1394, vs "number" 1395, vs "value" 1396]]
noncomputable def B8L (P : Params) : List Obj := [
 nd P [ke "__module__" 1358 (vs "raftkeep.commands" 1319), ke "__firstlineno__" 1362 (.int 590 1361), ke "__init__" 1375 (.ref 856), ke "row" 1382 (.ref 863), ke "encode" 1390 (.ref 870), ke "__static_attributes__" 1397 (.ref 871), ke "__dict__" 1399 (.ref 874), ke "__weakref__" 1401 (.ref 875), ke "__doc__" 1402 (.none)] 4,
 cl "Command" [.type "object"] [.ref 873, .type "object"] 872 [] [none, none, some (vs "Command" 1351), some (vs "Command" 1359), some (.builtin "object.__new__"), some (.bool true)],
 ob (.type "getset_descriptor") [vs "__dict__" 1398, .ref 873, .builtin "function.__dict__", .builtin "function.__dict__#set"],
 ob (.type "getset_descriptor") [vs "__weakref__" 1400, .ref 873, .builtin "ExceptionGroup.__weakref__", .none],
 su 873,
 bm [.builtin "object.__init_subclass__", .ref 873]]
noncomputable def tP4 (P : Params) : List Obj := B8N P ++ B8M P ++ B8L P
noncomputable def B8K (P : Params) : List Obj := [
 tu [],
 ob .none [],
 tu [vs "sink" 1408, vs "octets" 1409],
 tu [],
 rf "put_maybe" (A0T 81),
 cf "put_maybe" "put_maybe" 1405 617 1410 1411 2 878,
 fnO "put_maybe" (vs "raftkeep.commands" 1319) (.none) 883 (A0T 81),
 tu [],
 ob .none [],
 tu [vs "cursor" 1416],
 tu [],
 rf "take_maybe" (A0T 82),
 cf "take_maybe" "take_maybe" 1413 621 1417 1418 1 885,
 fnO "take_maybe" (vs "raftkeep.commands" 1319) (.none) 890 (A0T 82),
 tu [],
 ob .none [],
 tu [vs "data" 1423, vs "cursor" 1424, vs "kind" 1425, vs "client" 1426, vs "number" 1427, vs "key" 1428, vs "value" 1429, vs "expect" 1430],
 tu [],
 rf "decode_command" (A0T 83),
 cf "decode_command" "decode_command" 1420 625 1431 1432 1 892,
 fnO "decode_command" (vs "raftkeep.commands" 1319) (.none) 897 (A0T 83),
 tu [],
 ob .none [],
 tu [vs "code" 1437, vs "old" 1438, vs "sink" 1439],
 tu [],
 rf "make_reply" (A0T 84),
 cf "make_reply" "make_reply" 1434 640 1440 1441 2 899,
 fnO "make_reply" (vs "raftkeep.commands" 1319) (.none) 904 (A0T 84),
 tu [],
 ob .none [],
 tu [vs "key" 1446],
 tu [],
 rf "data_key" (A0T 85),
 cf "data_key" "data_key" 1443 645 1447 1448 1 906,
 fnO "data_key" (vs "raftkeep.commands" 1319) (.none) 911 (A0T 85),
 tu [],
 ob .none [],
 tu [vs "client" 1453, vs "low" 1454],
 tu [],
 rf "session_key" (A0T 86),
 cf "session_key" "session_key" 1450 647 1455 1456 1 913,
 fnO "session_key" (vs "raftkeep.commands" 1319) (.none) 918 (A0T 86),
 tu [],
 ob .none [],
 tu [vs "key" 1461, vs "client" 1462, vs "octet" 1463],
 tu [],
 rf "client_of" (A0T 87),
 cf "client_of" "client_of" 1458 650 1464 1465 1 920,
 fnO "client_of" (vs "raftkeep.commands" 1319) (.none) 925 (A0T 87),
 tu [],
 ob .none [],
 tu [vs "last" 1470, vs "is_open" 1471, vs "reply" 1472, vs "sink" 1473],
 tu [],
 rf "encode_session" (A0T 88),
 cf "encode_session" "encode_session" 1467 655 1474 1475 3 927,
 fnO "encode_session" (vs "raftkeep.commands" 1319) (.none) 932 (A0T 88),
 tu [],
 ob .none [],
 tu [vs "data" 1480, vs "cursor" 1481, vs "last" 1482, vs "is_open" 1483, vs "reply" 1484],
 tu []]
noncomputable def B8J (P : Params) : List Obj := [
 rf "decode_session" (A0T 89),
 cf "decode_session" "decode_session" 1477 661 1485 1486 1 934,
 fnO "decode_session" (vs "raftkeep.commands" 1319) (.none) 939 (A0T 89),
 tu [],
 bm [.builtin "type.__prepare__", .type "type"],
 nd P [ke "__module__" 1495 (vs "raftkeep.commands" 1319), ke "__qualname__" 1497 (vs "Machine" 1496), ke "__firstlineno__" 1499 (.int 668 1498), ke "__init__" 1507 (.ref 954), ke "load" 1514 (.ref 961), ke "mark_durable" 1521 (.ref 968), ke "put_applied" 1533 (.ref 975), ke "begin" 1543 (.ref 982), ke "apply" 1556 (.ref 989), ke "command_of" 1564 (.ref 996), ke "do_command" 1577 (.ref 1003), ke "do_effect" 1589 (.ref 1010), ke "get" 1597 (.ref 1017), ke "session_row" 1606 (.ref 1024), ke "session" 1617 (.ref 1031), ke "rows" 1627 (.ref 1038), ke "sessions" 1640 (.ref 1045), ke "row" 1647 (.ref 1052), ke "__static_attributes__" 1654 (.ref 1053)] 19,
 tu [],
 ob .none [.int 670 0, .int 4 0, .ref 953, .int 678 0, .int 4 0, .ref 960, .int 681 0, .int 4 0, .ref 967, .int 685 0, .int 4 0, .ref 974, .int 692 0, .int 4 0, .ref 981, .int 695 0, .int 4 0, .ref 988, .int 715 0, .int 4 0, .ref 995, .int 723 0, .int 4 0, .ref 1002, .int 736 0, .int 4 0, .ref 1009, .int 757 0, .int 4 0, .ref 1016, .int 760 0, .int 4 0, .ref 1023, .int 766 0, .int 4 0, .ref 1030, .int 772 0, .int 4 0, .ref 1037, .int 778 0, .int 4 0, .ref 1044, .int 785 0, .int 4 0, .ref 1051],
 cc "Machine" "Machine" 1490 668 1493 1494 944,
 pl (.type "frame") [some (.ref 946), some (.ref 3), some (.ref 943), none, some (vs "raftkeep.commands" 1319), none, some (.ref 0)],
 tu [],
 ob .none [],
 tu [vs "self" 1503, vs "store" 1504],
 tu [],
 rf "Machine.__init__" (A0j 90 0),
 cf "__init__" "Machine.__init__" 1500 670 1505 1506 2 948,
 fnO "Machine.__init__" (vs "raftkeep.commands" 1319) (.none) 953 (A0j 90 0),
 tu [],
 ob .none [],
 tu [vs "self" 1511],
 tu [],
 rf "Machine.load" (A0j 90 1),
 cf "load" "Machine.load" 1508 678 1512 1513 1 955,
 fnO "Machine.load" (vs "raftkeep.commands" 1319) (.none) 960 (A0j 90 1),
 tu [],
 ob .none [],
 tu [vs "self" 1518],
 tu [],
 rf "Machine.mark_durable" (A0j 90 2),
 cf "mark_durable" "Machine.mark_durable" 1515 681 1519 1520 1 962,
 fnO "Machine.mark_durable" (vs "raftkeep.commands" 1319) (.none) 967 (A0j 90 2),
 tu [],
 ob .none [],
 tu [vs "self" 1525, vs "batch" 1526, vs "index" 1527, vs "term" 1528, vs "conf_octets" 1529, vs "sink" 1530],
 tu [],
 rf "Machine.put_applied" (A0j 90 3),
 cf "put_applied" "Machine.put_applied" 1522 685 1531 1532 5 969,
 fnO "Machine.put_applied" (vs "raftkeep.commands" 1319) (.none) 974 (A0j 90 3),
 tu [],
 ob .none [],
 tu [vs "self" 1537, vs "index" 1538, vs "term" 1539, vs "conf" 1540],
 tu [],
 rf "Machine.begin" (A0j 90 4),
 cf "begin" "Machine.begin" 1534 692 1541 1542 4 976,
 fnO "Machine.begin" (vs "raftkeep.commands" 1319) (.none) 981 (A0j 90 4),
 tu [],
 ob .none [],
 tu [vs "self" 1547, vs "entry" 1548, vs "conf" 1549, vs "conf_octets" 1550, vs "batch" 1551, vs "reply" 1552, vs "command" 1553],
 tu [],
 rf "Machine.apply" (A0j 90 5),
 cf "apply" "Machine.apply" 1544 695 1554 1555 3 983,
 fnO "Machine.apply" (vs "raftkeep.commands" 1319) (.none) 988 (A0j 90 5),
 tu [],
 ob .none [],
 tu [vs "self" 1560, vs "entry" 1561],
 tu [],
 rf "Machine.command_of" (A0j 90 6),
 cf "command_of" "Machine.command_of" 1557 715 1562 1563 2 990,
 fnO "Machine.command_of" (vs "raftkeep.commands" 1319) (.none) 995 (A0j 90 6),
 tu []]
noncomputable def B8I (P : Params) : List Obj := [
 ob .none [],
 tu [vs "self" 1568, vs "command" 1569, vs "batch" 1570, vs "last" 1571, vs "is_open" 1572, vs "reply" 1573, vs "row" 1574],
 tu [],
 rf "Machine.do_command" (A0j 90 7),
 cf "do_command" "Machine.do_command" 1565 723 1575 1576 3 997,
 fnO "Machine.do_command" (vs "raftkeep.commands" 1319) (.none) 1002 (A0j 90 7),
 tu [],
 ob .none [],
 tu [vs "self" 1581, vs "command" 1582, vs "batch" 1583, vs "kind" 1584, vs "place" 1585, vs "old" 1586],
 tu [],
 rf "Machine.do_effect" (A0j 90 8),
 cf "do_effect" "Machine.do_effect" 1578 736 1587 1588 3 1004,
 fnO "Machine.do_effect" (vs "raftkeep.commands" 1319) (.none) 1009 (A0j 90 8),
 tu [],
 ob .none [],
 tu [vs "self" 1593, vs "key" 1594],
 tu [],
 rf "Machine.get" (A0j 90 9),
 cf "get" "Machine.get" 1590 757 1595 1596 2 1011,
 fnO "Machine.get" (vs "raftkeep.commands" 1319) (.none) 1016 (A0j 90 9),
 tu [],
 ob .none [],
 tu [vs "self" 1601, vs "client" 1602, vs "data" 1603],
 tu [],
 rf "Machine.session_row" (A0j 90 10),
 cf "session_row" "Machine.session_row" 1598 760 1604 1605 2 1018,
 fnO "Machine.session_row" (vs "raftkeep.commands" 1319) (.none) 1023 (A0j 90 10),
 tu [],
 ob .none [],
 tu [vs "self" 1610, vs "client" 1611, vs "last" 1612, vs "is_open" 1613, vs "reply" 1614],
 tu [],
 rf "Machine.session" (A0j 90 11),
 cf "session" "Machine.session" 1607 766 1615 1616 2 1025,
 fnO "Machine.session" (vs "raftkeep.commands" 1319) (.none) 1030 (A0j 90 11),
 tu [],
 ob .none [],
 tu [vs "self" 1621, vs "found" 1622, vs "place" 1623, vs "value" 1624],
 tu [],
 rf "Machine.rows" (A0j 90 12),
 cf "rows" "Machine.rows" 1618 772 1625 1626 1 1032,
 fnO "Machine.rows" (vs "raftkeep.commands" 1319) (.none) 1037 (A0j 90 12),
 tu [],
 ob .none [],
 tu [vs "self" 1631, vs "found" 1632, vs "place" 1633, vs "data" 1634, vs "last" 1635, vs "is_open" 1636, vs "reply" 1637],
 tu [],
 rf "Machine.sessions" (A0j 90 13),
 cf "sessions" "Machine.sessions" 1628 778 1638 1639 1 1039,
 fnO "Machine.sessions" (vs "raftkeep.commands" 1319) (.none) 1044 (A0j 90 13),
 tu [],
 ob .none [],
 tu [vs "self" 1644],
 tu [],
 rf "Machine.row" (A0j 90 14),
 cf "row" "Machine.row" 1641 785 1645 1646 1 1046,
 fnO "Machine.row" (vs "raftkeep.commands" 1319) (.none) 1051 (A0j 90 14),
 tu [vs "applied" 1648, vs "conf_octets" 1649, vs "durable" 1650, vs "store" 1651, vs "sync_each" 1652, vs "term" 1653],
 nd P [ke "__module__" 1495 (vs "raftkeep.commands" 1319), ke "__firstlineno__" 1499 (.int 668 1498), ke "__init__" 1507 (.ref 954), ke "load" 1514 (.ref 961), ke "mark_durable" 1521 (.ref 968), ke "put_applied" 1533 (.ref 975), ke "begin" 1543 (.ref 982), ke "apply" 1556 (.ref 989), ke "command_of" 1564 (.ref 996), ke "do_command" 1577 (.ref 1003), ke "do_effect" 1589 (.ref 1010), ke "get" 1597 (.ref 1017), ke "session_row" 1606 (.ref 1024), ke "session" 1617 (.ref 1031), ke "rows" 1627 (.ref 1038), ke "sessions" 1640 (.ref 1045), ke "row" 1647 (.ref 1052), ke "__static_attributes__" 1654 (.ref 1053), ke "__dict__" 1656 (.ref 1056), ke "__weakref__" 1658 (.ref 1057), ke "__doc__" 1659 (.none)] 4,
 cl "Machine" [.type "object"] [.ref 1055, .type "object"] 1054 [] [none, none, some (vs "Machine" 1488), some (vs "Machine" 1496), some (.builtin "object.__new__"), some (.bool true)],
 ob (.type "getset_descriptor") [vs "__dict__" 1655, .ref 1055, .builtin "function.__dict__", .builtin "function.__dict__#set"],
 ob (.type "getset_descriptor") [vs "__weakref__" 1657, .ref 1055, .builtin "ExceptionGroup.__weakref__", .none]]
noncomputable def B8H (P : Params) : List Obj := [
 su 1055,
 bm [.builtin "object.__init_subclass__", .ref 1055],
 tu [],
 ob .none [],
 tu [vs "a" 1665, vs "b" 1666],
 tu [],
 rf "same_maybe" (A0T 91),
 cf "same_maybe" "same_maybe" 1662 787 1667 1668 2 1060,
 fnO "same_maybe" (vs "raftkeep.commands" 1319) (.none) 1065 (A0T 91),
 tu [],
 bm [.builtin "type.__prepare__", .type "type"],
 nd P [ke "__module__" 1677 (vs "raftkeep.commands" 1319), ke "__qualname__" 1679 (vs "MemStore" 1678), ke "__firstlineno__" 1681 (.int 791 1680), ke "__init__" 1688 (.ref 1080), ke "write" 1697 (.ref 1087), ke "take" 1708 (.ref 1094), ke "sync" 1715 (.ref 1101), ke "is_durable" 1722 (.ref 1108), ke "get" 1730 (.ref 1115), ke "scan" 1742 (.ref 1122), ke "cut" 1753 (.ref 1129), ke "__static_attributes__" 1758 (.ref 1130)] 12,
 tu [],
 ob .none [.int 793 0, .int 4 0, .ref 1079, .int 799 0, .int 4 0, .ref 1086, .int 807 0, .int 4 0, .ref 1093, .int 816 0, .int 4 0, .ref 1100, .int 819 0, .int 4 0, .ref 1107, .int 822 0, .int 4 0, .ref 1114, .int 825 0, .int 4 0, .ref 1121, .int 837 0, .int 4 0, .ref 1128],
 cc "MemStore" "MemStore" 1672 791 1675 1676 1070,
 pl (.type "frame") [some (.ref 1072), some (.ref 3), some (.ref 1069), none, some (vs "raftkeep.commands" 1319), none, some (.ref 0)],
 tu [],
 ob .none [],
 tu [vs "self" 1685],
 tu [],
 rf "MemStore.__init__" (A0j 92 0),
 cf "__init__" "MemStore.__init__" 1682 793 1686 1687 1 1074,
 fnO "MemStore.__init__" (vs "raftkeep.commands" 1319) (.none) 1079 (A0j 92 0),
 tu [],
 ob .none [],
 tu [vs "self" 1692, vs "batch" 1693, vs "sync" 1694],
 tu [],
 rf "MemStore.write" (A0j 92 1),
 cf "write" "MemStore.write" 1689 799 1695 1696 3 1081,
 fnO "MemStore.write" (vs "raftkeep.commands" 1319) (.none) 1086 (A0j 92 1),
 tu [],
 ob .none [],
 tu [vs "self" 1701, vs "ops" 1702, vs "kind" 1703, vs "key" 1704, vs "value" 1705],
 tu [],
 rf "MemStore.take" (A0j 92 2),
 cf "take" "MemStore.take" 1698 807 1706 1707 2 1088,
 fnO "MemStore.take" (vs "raftkeep.commands" 1319) (.none) 1093 (A0j 92 2),
 tu [],
 ob .none [],
 tu [vs "self" 1712],
 tu [],
 rf "MemStore.sync" (A0j 92 3),
 cf "sync" "MemStore.sync" 1709 816 1713 1714 1 1095,
 fnO "MemStore.sync" (vs "raftkeep.commands" 1319) (.none) 1100 (A0j 92 3),
 tu [],
 ob .none [],
 tu [vs "self" 1719],
 tu [],
 rf "MemStore.is_durable" (A0j 92 4),
 cf "is_durable" "MemStore.is_durable" 1716 819 1720 1721 1 1102,
 fnO "MemStore.is_durable" (vs "raftkeep.commands" 1319) (.none) 1107 (A0j 92 4),
 tu [],
 ob .none [],
 tu [vs "self" 1726, vs "key" 1727],
 tu [],
 rf "MemStore.get" (A0j 92 5),
 cf "get" "MemStore.get" 1723 822 1728 1729 2 1109,
 fnO "MemStore.get" (vs "raftkeep.commands" 1319) (.none) 1114 (A0j 92 5),
 tu [],
 ob .none []]
noncomputable def B8G (P : Params) : List Obj := [
 tu [vs "self" 1734, vs "low" 1735, vs "high" 1736, vs "snap" 1737, vs "found" 1738, vs "key" 1739],
 tu [],
 rf "MemStore.scan" (A0j 92 6),
 cf "scan" "MemStore.scan" 1731 825 1740 1741 4 1116,
 fnO "MemStore.scan" (vs "raftkeep.commands" 1319) (.none) 1121 (A0j 92 6),
 tu [],
 ob .none [],
 tu [vs "self" 1746, vs "pick" 1747, vs "keep" 1748, vs "other" 1749, vs "ops" 1750],
 tu [],
 rf "MemStore.cut" (A0j 92 7),
 cf "cut" "MemStore.cut" 1743 837 1751 1752 2 1123,
 fnO "MemStore.cut" (vs "raftkeep.commands" 1319) (.none) 1128 (A0j 92 7),
 tu [vs "batches" 1754, vs "kept" 1755, vs "last" 1756, vs "now" 1757],
 nd P [ke "__module__" 1677 (vs "raftkeep.commands" 1319), ke "__firstlineno__" 1681 (.int 791 1680), ke "__init__" 1688 (.ref 1080), ke "write" 1697 (.ref 1087), ke "take" 1708 (.ref 1094), ke "sync" 1715 (.ref 1101), ke "is_durable" 1722 (.ref 1108), ke "get" 1730 (.ref 1115), ke "scan" 1742 (.ref 1122), ke "cut" 1753 (.ref 1129), ke "__static_attributes__" 1758 (.ref 1130), ke "__dict__" 1760 (.ref 1133), ke "__weakref__" 1762 (.ref 1134), ke "__doc__" 1763 (.none)] 4,
 cl "MemStore" [.type "object"] [.ref 1132, .type "object"] 1131 [] [none, none, some (vs "MemStore" 1670), some (vs "MemStore" 1678), some (.builtin "object.__new__"), some (.bool true)],
 ob (.type "getset_descriptor") [vs "__dict__" 1759, .ref 1132, .builtin "function.__dict__", .builtin "function.__dict__#set"],
 ob (.type "getset_descriptor") [vs "__weakref__" 1761, .ref 1132, .builtin "ExceptionGroup.__weakref__", .none],
 su 1132,
 bm [.builtin "object.__init_subclass__", .ref 1132],
 tu [],
 ob .none [],
 tu [],
 tu [],
 rf "_law_kinds" (A0T 94),
 cf "_law_kinds" "_law_kinds" 1768 845 1771 1772 0 1137,
 fnO "_law_kinds" (vs "law_nz0379_01" 1766) (.none) 1142 (A0T 94),
 tu [],
 ob .none [],
 tu [vs "nums" 1777, vs "i" 1778],
 tu [],
 rf "_law_draw" (A0T 95),
 cf "_law_draw" "_law_draw" 1774 847 1779 1780 2 1144,
 fnO "_law_draw" (vs "law_nz0379_01" 1766) (.none) 1149 (A0T 95),
 tu [],
 ob .none [],
 tu [vs "word" 1785],
 tu [],
 rf "_law_maybe" (A0T 96),
 cf "_law_maybe" "_law_maybe" 1782 849 1786 1787 1 1151,
 fnO "_law_maybe" (vs "law_nz0379_01" 1766) (.none) 1156 (A0T 96),
 tu [],
 ob .none [],
 tu [vs "net" 1792, vs "number" 1793, vs "data" 1794, vs "message" 1795],
 tu [],
 rf "_law_send" (A0T 97),
 cf "_law_send" "_law_send" 1789 853 1796 1797 3 1158,
 fnO "_law_send" (vs "law_nz0379_01" 1766) (.none) 1163 (A0T 97),
 tu [],
 ob .none [],
 tu [vs "net" 1802, vs "machine" 1803, vs "message" 1804, vs "numbers" 1805, vs "wants" 1806, vs "states" 1807, vs "seat" 1808, vs "i" 1809, vs "reply" 1810, vs "answer" 1811, vs "right" 1812],
 tu [],
 rf "_law_hand" (A0T 98),
 cf "_law_hand" "_law_hand" 1799 858 1813 1814 7 1165,
 fnO "_law_hand" (vs "law_nz0379_01" 1766) (.none) 1170 (A0T 98),
 tu [],
 ob .none [],
 rf "law" (A0T 99),
 cd "law" "law" 1816 880 1819 1820 [.int 1 0, .int 0 0, .int 0 0, .int 3 0, .ref 1172, .bool true, .int 181 0, .ref 1173, .none, .none, .none, .ref 1174],
 fnO "law" (vs "law_nz0379_01" 1766) (.none) 1175 (A0T 99)]
noncomputable def tP5 (P : Params) : List Obj := B8K P ++ B8J P ++ B8I P ++ B8H P ++ B8G P
noncomputable def o2 : Nat → Params → Obj
 | 0, P => ns .none P [] 0
 | _, P => ns .none P [ke "type.__subclasses__.Exception.0" 212 (.int 31 0), ke "type.__subclasses__.Exception.n" 213 (.int 1 0)] 2
noncomputable def tHd (P : Params) (j k : Nat) (nm : Value) (f : Nat) : List Obj := [boot_o_0 P, boot_o_1 P, o2 j P, ns (.type "dict") P (ke "__name__" 165 nm :: tD.take k) (k + 1), boot_o_4 P, boot_o_5 P, boot_o_6 P, boot_o_7 P, boot_o_8 P, boot_o_9 P, boot_o_10 P, tu [], ob .none (tF.take f)]
noncomputable def tS0 (P : Params) (os : OsState) : SharedT := ⟨mkT 11 (tHd P 0 8 (vs "__main__" 164) 0 ++ (tP0 P)), 15, {}, #[], {}, 187, os⟩
noncomputable abbrev B1p : Pos := ⟨0, 0, 0, 0⟩
noncomputable def tS1 (P : Params) (os : OsState) : SharedT := ⟨mkT 11 (tHd P 1 18 (vs "raftkeep.errors" 194) 30 ++ (tP0 P ++ (tP1 P))), 131, {}, #[], {}, 344, os⟩
noncomputable abbrev B5o : Pos := ⟨21, 0, 22, 8⟩
noncomputable def tS2 (P : Params) (os : OsState) : SharedT := ⟨mkT 11 (tHd P 2 39 (vs "raftkeep.messages" 646) 78 ++ (tP0 P ++ (tP1 P ++ (tP2 P)))), 391, {}, #[], {}, 671, os⟩
noncomputable abbrev B5n : Pos := ⟨205, 0, 209, 16⟩
noncomputable def tS3 (P : Params) (os : OsState) : SharedT := ⟨mkT 11 (tHd P 3 61 (vs "raftkeep.network" 1000) 123 ++ (tP0 P ++ (tP1 P ++ (tP2 P ++ (tP3 P))))), 752, {}, #[], {}, 1194, os⟩
noncomputable abbrev B5m : Pos := ⟨404, 0, 520, 20⟩
noncomputable def tS4 (P : Params) (os : OsState) : SharedT := ⟨mkT 11 (tHd P 4 83 (vs "raftkeep.commands" 1319) 132 ++ (tP0 P ++ (tP1 P ++ (tP2 P ++ (tP3 P ++ (tP4 P)))))), 878, {}, #[], {}, 1405, os⟩
noncomputable abbrev B5l : Pos := ⟨590, 0, 616, 26⟩
noncomputable def tS5 (P : Params) (os : OsState) : SharedT := ⟨mkT 11 (tHd P 5 101 (vs "law_nz0379_01" 1766) 186 ++ (tP0 P ++ (tP1 P ++ (tP2 P ++ (tP3 P ++ (tP4 P ++ (tP5 P))))))), 1177, {}, #[], {}, 1822, os⟩
noncomputable abbrev B5k : Pos := ⟨880, 0, 959, 94⟩
noncomputable def B3G : Env := { scope := pw.main.scope, locals := mainNs, globals := mainNs, cells := [], code := .ref 13, frame := some 14 }
noncomputable def A4x : Code := .body (behindTheImports pw) B3G
noncomputable def tG (a b : Nat) : List Stmt := ((behindTheImports pw).drop a).take b
theorem tCut : behindTheImports pw = tG 0 11 ++ (tG 11 23 ++ (tG 34 23 ++ (tG 57 24 ++ (tG 81 19 ++ [])))) := by kernel_rfl
theorem tPre (w : World) (os : OsState) : topGo treeTable pw w 11 (some (.ref 6)) 12 ⟨boot_heap w.params, Array.mk [], boot_drawn, boot_toks, os⟩ (topStub pw) = some ((tS0 w.params os).abs, ⟨denote treeTable A4x, A4x, B1p, [topFrame default]⟩) := by
 rw [Fast.te15667345088766844465, Fast.te14364793385576792824, Fast.te11892475500146522536]
 kernel_rfl
theorem B5t (w : World) (os : OsState) : segRun treeTable pw w 11 (some (.ref 6)) 1 1 (tS0 w.params os).abs (blockOf (behindTheImports pw) B3G A4x B1p [topFrame default]) = some (.next, (tS0 w.params os).abs, A4x, B1p) := by
 rw [Fast.te14374325043358763698, Fast.te14364793385576792824]
 kernel_rfl
theorem B8D (w : World) (os : OsState) : segRunT treeTable pw w 11 (some (.ref 6)) 1 2037 (tS0 w.params os) (piecesOf (tG 0 11) B3G A4x B1p [topFrame default]) = some (.next, tS1 w.params os, A4x, B5o) := by
 rw [Fast.te10110043849684766642, Fast.te14364793385576792824]
 kernel_rfl
theorem B8C (w : World) (os : OsState) : segRunT treeTable pw w 11 (some (.ref 6)) 1 1480 (tS1 w.params os) (piecesOf (tG 11 23) B3G A4x B5o [topFrame default]) = some (.next, tS2 w.params os, A4x, B5n) := by
 rw [Fast.te10110043849684766642, Fast.te14364793385576792824]
 kernel_rfl
theorem B8B (w : World) (os : OsState) : segRunT treeTable pw w 11 (some (.ref 6)) 1 2427 (tS2 w.params os) (piecesOf (tG 34 23) B3G A4x B5n [topFrame default]) = some (.next, tS3 w.params os, A4x, B5m) := by
 rw [Fast.te10110043849684766642, Fast.te14364793385576792824]
 kernel_rfl
theorem B8A (w : World) (os : OsState) : segRunT treeTable pw w 11 (some (.ref 6)) 1 1031 (tS3 w.params os) (piecesOf (tG 57 24) B3G A4x B5m [topFrame default]) = some (.next, tS4 w.params os, A4x, B5l) := by
 rw [Fast.te10110043849684766642, Fast.te14364793385576792824]
 kernel_rfl
theorem B8z (w : World) (os : OsState) : segRunT treeTable pw w 11 (some (.ref 6)) 1 1665 (tS4 w.params os) (piecesOf (tG 81 19) B3G A4x B5l [topFrame default]) = some (.next, tS5 w.params os, A4x, B5k) := by
 rw [Fast.te10110043849684766642, Fast.te14364793385576792824]
 kernel_rfl
end MineT
open Mine
namespace MineT
noncomputable def q1 : Program := { pw with main := { pw.main with body := [A0T 99] } }
noncomputable def A6u : List Str := [.ofString "_wall", .ofString "KeepError", .ofString "StoreError", .ofString "Corrupt", .ofString "ShortOctets", .ofString "BadOption", .ofString "BatchRefused", .ofString "ServeError", .ofString "BadCommand", .ofString "AppliedGap", .ofString "MAX_32", .ofString "MAX_64", .ofString "write_groups", .ofString "read_groups", .ofString "put_varint", .ofString "read_varint", .ofString "put_varint32", .ofString "read_varint32", .ofString "varint_length", .ofString "put_fixed32", .ofString "put_fixed64", .ofString "read_fixed32", .ofString "read_fixed64", .ofString "read_lengthed", .ofString "Cursor", .ofString "Sink", .ofString "MSG_PIECE", .ofString "ENTRY_NORMAL", .ofString "ENTRY_CONF", .ofString "rising", .ofString "take_count", .ofString "Entry", .ofString "encode_entry", .ofString "decode_entry", .ofString "ConfState", .ofString "put_ids", .ofString "take_ids", .ofString "encode_conf", .ofString "decode_conf", .ofString "Snapshot", .ofString "encode_snapshot", .ofString "decode_snapshot", .ofString "Message", .ofString "encode_message", .ofString "decode_message", .ofString "FATE_KEEP", .ofString "FATE_LOSE", .ofString "FATE_TWICE", .ofString "FATE_FIRST", .ofString "FATE_LATE", .ofString "FATE_COUNT", .ofString "LATE_BY", .ofString "Net", .ofString "KIND_DELETE", .ofString "KIND_VALUE", .ofString "MAX_SEQ", .ofString "BATCH_HEAD", .ofString "WriteBatch", .ofString "check_span", .ofString "CMD_NONE", .ofString "CMD_PUT", .ofString "CMD_DELETE", .ofString "CMD_CAS", .ofString "CMD_OPEN", .ofString "CMD_CLOSE", .ofString "REPLY_OK", .ofString "REPLY_NO", .ofString "REPLY_UNKNOWN", .ofString "REPLY_STALE", .ofString "APPLIED_KEY", .ofString "DATA_HEAD", .ofString "DATA_END", .ofString "SESSION_HEAD", .ofString "SESSION_END", .ofString "Command", .ofString "put_maybe", .ofString "take_maybe", .ofString "decode_command", .ofString "make_reply", .ofString "data_key", .ofString "session_key", .ofString "client_of", .ofString "encode_session", .ofString "decode_session", .ofString "Machine", .ofString "same_maybe", .ofString "MemStore", .ofString "_law_kinds", .ofString "_law_draw", .ofString "_law_maybe", .ofString "_law_send", .ofString "_law_hand"]
theorem tFin (w : World) (s : Shared) : topRun treeTable pw w 11 (some (.ref 6)) 2 s ⟨doneF .next, A4x, B5k, [topFrame default]⟩ = some s := by
 rw [Fast.te14082659384304107361, Fast.te14364793385576792824]
 cases s
 kernel_rfl
theorem tRun (w : World) (os : OsState) : topRun treeTable pw w 11 (some (.ref 6)) (12 + (1 + (2037 + (1480 + (2427 + (1031 + (1665 + 2))))))) ⟨boot_heap w.params, Array.mk [], boot_drawn, boot_toks, os⟩ (topStub pw) = some (tS5 w.params os).abs := by
 have k := piece_app (q := default) (segRun_of (B8D w os)) (piece_app (segRun_of (B8C w os)) (piece_app (segRun_of (B8B w os)) (piece_app (segRun_of (B8A w os)) (piece_app (segRun_of (B8z w os)) (piece_nil (tFin w _))))))
 rw [← tCut] at k
 exact go_top (tPre w os) (piece_block (B5t w os) k)
theorem B8F : ∀ w : World, (fencedOpening treeTable pw w 17396).map (fun s => (s.heap, s.gens, s.drawn, s.toks)) = some (boot_heap w.params, Array.mk [], boot_drawn, boot_toks) :=
 boot_open (by kernel_rfl) (by decide) fun s => rfl
noncomputable def tH (P : Params) : Heap := absHeap (tS5 P default).tree 1177 {}
theorem B8y (w : World) : ((boot_heap w.params).isNs mainGlobals && (Array.mk [] : Array GenState).size == 0, (boot_heap w.params).objs.size, (boot_heap w.params).nsMap mainGlobals "__annotations__") = (true, 11, some (.ref 6)) := by kernel_rfl
theorem B5s (w : World) (os : OsState) : (staticsOk (importedModules pw.main.body) (boot_heap w.params) (tH w.params) && namesBound pw (tH w.params) && gensDone ⟨tH w.params, #[], {}, 1822, os⟩ && laidKept (boot_heap w.params) (tH w.params)) = true := by kernel_rfl
theorem B5r (w : World) (os : OsState) : openSeen q1 A6u (importedModules pw.main.body) (fun _ => true) true ⟨tH w.params, #[], {}, 1822, os⟩ = openGood q1 A6u := by
 rw [Fast.te4187177175401517315]
 kernel_rfl
theorem B5q (w : World) (os : OsState) : (kHook kf ka A6g).obs ⟨tH w.params, #[], {}, 1822, os⟩ = (kHook kf ka A6g).val w := by kernel_rfl
theorem tAbs (P : Params) (os : OsState) : (tS5 P os).abs = ⟨tH P, #[], {}, 1822, os⟩ := rfl
theorem B8E (w : World) (os : OsState) : topRun treeTable pw w 11 (some (.ref 6)) (12 + (1 + (2037 + (1480 + (2427 + (1031 + (1665 + 2))))))) ⟨boot_heap w.params, Array.mk [], boot_drawn, boot_toks, os⟩ (topStub pw) = some ⟨tH w.params, #[], {}, 1822, os⟩ := by
 rw [tRun w os, tAbs]
theorem B5p (w : World) : (fun os => ((staticsOk (importedModules pw.main.body) (boot_heap w.params) (tH w.params) && namesBound pw (tH w.params) && gensDone ⟨tH w.params, #[], {}, 1822, os⟩ && laidKept (boot_heap w.params) (tH w.params)),
  openSeen q1 A6u (importedModules pw.main.body) (fun _ => true) true ⟨tH w.params, #[], {}, 1822, os⟩, (kHook kf ka A6g).obs ⟨tH w.params, #[], {}, 1822, os⟩)) = fun _ => (true, openGood q1 A6u, (kHook kf ka A6g).val w) := funext fun os => by
 rw [B5s, B5r, B5q]
theorem B9d : LeftO pw q1 A6u (fun _ => true) (kHook kf ka A6g).obs (kHook kf ka A6g).val 17396 :=
 LeftO.of_pieces (H₁ := tH) (gs₁ := #[]) (d₁ := {}) (k₁ := 1822) B8F B8y B8E (by decide) B5p
end MineT
namespace Mine
open MineT
theorem A9T (lk : Look) : ∀ a b : List Stmt, noRoadLSs lk (a ++ b) = (noRoadLSs lk a && noRoadLSs lk b)
 | [], b => rfl
 | s :: r, b => by
  show (noRoadLS lk s && noRoadLSs lk (r ++ b)) = _
  rw [A9T lk r b, ← Bool.and_assoc]; rfl
theorem B3M (n : Nat) {lk : Look} {l : List Stmt} (h : (noRoadLSs lk (l.take n) && noRoadLSs lk (l.drop n)) = true) : noRoadLSs lk l = true := by
 rw [← List.take_append_drop n l, A9T]; exact h
section
open TablesWhole
theorem A9J {top : Scope} {cx : TablesWhole.Ctx} {sc : Scope} : ∀ a b : List Stmt, wSs holds top cx sc (a ++ b) = (wSs holds top cx sc a && wSs holds top cx sc b)
 | [], b => rfl
 | s :: r, b => by
  show (wS holds top cx sc s && wSs holds top cx sc (r ++ b)) = _
  rw [A9J r b, ← Bool.and_assoc]; rfl
theorem A8a (n : Nat) {top : Scope} {cx : TablesWhole.Ctx} {sc : Scope} {l : List Stmt} (h : (wSs holds top cx sc (l.take n) && wSs holds top cx sc (l.drop n)) = true) : wSs holds top cx sc l = true := by
 rw [← List.take_append_drop n l, A9J]; exact h
theorem B5j : wSs gather pw.main.scope ⟨pw.main.scope, [], [], [], none⟩ pw.main.scope pw.main.body = [] := List.isEmpty_iff.mp (by decide +kernel)
theorem B8x : noTwice pw.main.scope = true := by decide +kernel
theorem tw1 : wSs holds pw.main.scope ⟨pw.main.scope, [], [], [], none⟩ pw.main.scope (pw.main.body.take 30) = true := by decide +kernel
theorem tw2 : wSs holds pw.main.scope ⟨pw.main.scope, [], [], [], none⟩ pw.main.scope ((pw.main.body.drop 30).take 30) = true := by decide +kernel
theorem tw3 : wSs holds pw.main.scope ⟨pw.main.scope, [], [], [], none⟩ pw.main.scope (((pw.main.body.drop 30).drop 30).take 30) = true := by decide +kernel
theorem tw4 : wSs holds pw.main.scope ⟨pw.main.scope, [], [], [], none⟩ pw.main.scope (((pw.main.body.drop 30).drop 30).drop 30) = true := by decide +kernel
theorem tw : pw.tablesWhole = true := by
 unfold Program.tablesWhole TablesWhole.wProgram TablesWhole.wModule
 rw [B5j]; dsimp only; rw [A8a 30 (look_both tw1 (A8a 30 (look_both tw2 (A8a 30 (look_both tw3 tw4))))), B8x]
 decide +kernel
end
theorem B5w : readsOut PySem.Challenge.rw_nz0379_01.row.prog PySem.Challenge.rw_nz0379_01.row.prog.main.body "vars" = false := by
 unfold readsOut
 (try rw [Fast.te11788848310118352699]); (try rw [Fast.te9807087744658564304]); (try rw [Fast.te12862048085361865435]); (try rw [Fast.te8377067652309620493]); (try rw [Fast.te8326940854005059898])
 (try rw [Fast.te5923862056798008813]); (try rw [Fast.te13343964577679436407]); (try rw [Fast.te17119622794617984870]); (try rw [Fast.te17868728402115742887]); (try rw [Fast.te17691160309236699985])
 (try rw [Fast.te18344453789297297638]); (try rw [Fast.te14412699480532031325]); (try rw [Fast.te3471404346716756564]); (try rw [Fast.sDec_eq]); (try rw [Fast.te2368527892694137696])
 (try rw [Fast.te8179353310426384613]); (try rw [Fast.te9558739934217749035]); (try rw [Fast.te16286561074155671207]); (try rw [Fast.te6984425678791042302]); (try rw [Fast.te10792542408131684335]); (try rw [Fast.named_eq]); (try rw [Fast.te797321630700447069])
 (try rw [Fast.te482687673346738481]); (try rw [Fast.te12879404354523853263]); (try rw [Fast.te9572597257264208301]); (try rw [Fast.te10501279942588096481]); (try rw [Fast.te12749700546528644094])
 kernel_rfl
theorem B5v : readsOut PySem.Challenge.rw_nz0379_01.row.prog PySem.Challenge.rw_nz0379_01.row.prog.main.body "dir" = false := by
 unfold readsOut
 (try rw [Fast.te11788848310118352699]); (try rw [Fast.te9807087744658564304]); (try rw [Fast.te12862048085361865435]); (try rw [Fast.te8377067652309620493]); (try rw [Fast.te8326940854005059898])
 (try rw [Fast.te5923862056798008813]); (try rw [Fast.te13343964577679436407]); (try rw [Fast.te17119622794617984870]); (try rw [Fast.te17868728402115742887]); (try rw [Fast.te17691160309236699985])
 (try rw [Fast.te18344453789297297638]); (try rw [Fast.te14412699480532031325]); (try rw [Fast.te3471404346716756564]); (try rw [Fast.sDec_eq]); (try rw [Fast.te2368527892694137696])
 (try rw [Fast.te8179353310426384613]); (try rw [Fast.te9558739934217749035]); (try rw [Fast.te16286561074155671207]); (try rw [Fast.te6984425678791042302]); (try rw [Fast.te10792542408131684335]); (try rw [Fast.named_eq]); (try rw [Fast.te797321630700447069])
 (try rw [Fast.te482687673346738481]); (try rw [Fast.te12879404354523853263]); (try rw [Fast.te9572597257264208301]); (try rw [Fast.te10501279942588096481]); (try rw [Fast.te12749700546528644094])
 kernel_rfl
theorem B5u : readsOut PySem.Challenge.rw_nz0379_01.row.prog PySem.Challenge.rw_nz0379_01.row.prog.main.body "locals" = false := by
 unfold readsOut
 (try rw [Fast.te11788848310118352699]); (try rw [Fast.te9807087744658564304]); (try rw [Fast.te12862048085361865435]); (try rw [Fast.te8377067652309620493]); (try rw [Fast.te8326940854005059898])
 (try rw [Fast.te5923862056798008813]); (try rw [Fast.te13343964577679436407]); (try rw [Fast.te17119622794617984870]); (try rw [Fast.te17868728402115742887]); (try rw [Fast.te17691160309236699985])
 (try rw [Fast.te18344453789297297638]); (try rw [Fast.te14412699480532031325]); (try rw [Fast.te3471404346716756564]); (try rw [Fast.sDec_eq]); (try rw [Fast.te2368527892694137696])
 (try rw [Fast.te8179353310426384613]); (try rw [Fast.te9558739934217749035]); (try rw [Fast.te16286561074155671207]); (try rw [Fast.te6984425678791042302]); (try rw [Fast.te10792542408131684335]); (try rw [Fast.named_eq]); (try rw [Fast.te797321630700447069])
 (try rw [Fast.te482687673346738481]); (try rw [Fast.te12879404354523853263]); (try rw [Fast.te9572597257264208301]); (try rw [Fast.te10501279942588096481]); (try rw [Fast.te12749700546528644094])
 kernel_rfl
theorem B8d : List.filter (readsOut PySem.Challenge.rw_nz0379_01.row.prog PySem.Challenge.rw_nz0379_01.row.prog.main.body) ["vars", "dir", "locals"] = [] := by
 rw [List.filter_cons, B5w, List.filter_cons, B5v, List.filter_cons, B5u]; rfl
theorem B9e : PySem.Challenge.rw_nz0379_01.wellSaid = true := by
 unfold OpenLaw.wellSaid OpenRow.wellSaid OpenRow.partSaid looksOpen
 repeat' with_reducible refine look_both ?_ ?_
 all_goals try (rw [B8d]; with_reducible refine B3M 50 (look_both ?_ ?_))
 all_goals
  (try rw [Fast.te11788848310118352699]); (try rw [Fast.te9807087744658564304]); (try rw [Fast.te12862048085361865435]); (try rw [Fast.te8377067652309620493]); (try rw [Fast.te8326940854005059898])
  (try rw [Fast.te5923862056798008813]); (try rw [Fast.te13343964577679436407]); (try rw [Fast.te17119622794617984870]); (try rw [Fast.te17868728402115742887]); (try rw [Fast.te17691160309236699985])
  (try rw [Fast.te18344453789297297638]); (try rw [Fast.te14412699480532031325]); (try rw [Fast.te3471404346716756564]); (try rw [Fast.sDec_eq]); (try rw [Fast.te2368527892694137696])
  (try rw [Fast.te8179353310426384613]); (try rw [Fast.te9558739934217749035]); (try rw [Fast.te16286561074155671207]); (try rw [Fast.te6984425678791042302]); (try rw [Fast.te10792542408131684335]); (try rw [Fast.named_eq]); (try rw [Fast.te797321630700447069])
  (try rw [Fast.te482687673346738481]); (try rw [Fast.te12879404354523853263]); (try rw [Fast.te9572597257264208301]); (try rw [Fast.te10501279942588096481]); (try rw [Fast.te12749700546528644094])
  as_aux_lemma => kernel_rfl
theorem head (hall : ∀ (Γ : Cx) (sc c : Addr) (xs : List Value) (ns : List Int), Low Γ 0 → LawCx Γ c → Γ.h₀.IsList sc xs.toArray → IntsAre xs ns → xs.length ≤ 63 →
   Do Γ (LV (some (.ref sc)) none none none none none none none none none none none none none none none none none none none none none none none none none) ((c, .cell none) :: []) [A0p] fun fl _ _ => A2b fl = .bool true) : PySem.Challenge.rw_nz0379_01.Holds := by
 refine holds_law B9e fun B9e => ?_
 refine Mine.PySem.W.holds_open (q := q1) (loose := A6u) (Xt := fun _ => true) (XP := fun _ _ => True) (YP := Hook.says (kHook kf ka A6g)) B9d (Hook.of (kHook kf ka A6g)) (Hook.keeps (kHook kf ka A6g)) (fun _ _ => trivial) (fun _ _ _ _ _ => trivial) (by rfl) (by rfl) (by rfl) (fun s e => recFacts_nil rfl) (by rfl) B9e (by decide +kernel) ⟨rfl, rfl, rfl, rfl, rfl, tw⟩ ?hw ?hc
 case hw => w_witness2
 exact B1F hall rfl rfl rfl rfl rfl
end Mine
namespace Mine
section
variable {α : Type} {a p0 p1 p2 p3 p4 p5 p6 p7 p8 p9 p10 p11 p12 p13 p14 p15 p16 p17 p18 p19 p20 p21 p22 p23 p24 p25 : α} {l : List α}
theorem M0 : a ∈ a :: l := List.mem_cons_self
theorem M1 : a ∈ p0 :: a :: l := .tail _ M0
theorem M2 : a ∈ p0 :: p1 :: a :: l := .tail _ M1
theorem M3 : a ∈ p0 :: p1 :: p2 :: a :: l := .tail _ M2
theorem M4 : a ∈ p0 :: p1 :: p2 :: p3 :: a :: l := .tail _ M3
theorem M5 : a ∈ p0 :: p1 :: p2 :: p3 :: p4 :: a :: l := .tail _ M4
theorem M6 : a ∈ p0 :: p1 :: p2 :: p3 :: p4 :: p5 :: a :: l := .tail _ M5
theorem M7 : a ∈ p0 :: p1 :: p2 :: p3 :: p4 :: p5 :: p6 :: a :: l := .tail _ M6
theorem M8 : a ∈ p0 :: p1 :: p2 :: p3 :: p4 :: p5 :: p6 :: p7 :: a :: l := .tail _ M7
theorem M9 : a ∈ p0 :: p1 :: p2 :: p3 :: p4 :: p5 :: p6 :: p7 :: p8 :: a :: l := .tail _ M8
theorem M10 : a ∈ p0 :: p1 :: p2 :: p3 :: p4 :: p5 :: p6 :: p7 :: p8 :: p9 :: a :: l := .tail _ M9
theorem M11 : a ∈ p0 :: p1 :: p2 :: p3 :: p4 :: p5 :: p6 :: p7 :: p8 :: p9 :: p10 :: a :: l := .tail _ M10
theorem M12 : a ∈ p0 :: p1 :: p2 :: p3 :: p4 :: p5 :: p6 :: p7 :: p8 :: p9 :: p10 :: p11 :: a :: l := .tail _ M11
theorem M13 : a ∈ p0 :: p1 :: p2 :: p3 :: p4 :: p5 :: p6 :: p7 :: p8 :: p9 :: p10 :: p11 :: p12 :: a :: l := .tail _ M12
theorem M14 : a ∈ p0 :: p1 :: p2 :: p3 :: p4 :: p5 :: p6 :: p7 :: p8 :: p9 :: p10 :: p11 :: p12 :: p13 :: a :: l := .tail _ M13
theorem M15 : a ∈ p0 :: p1 :: p2 :: p3 :: p4 :: p5 :: p6 :: p7 :: p8 :: p9 :: p10 :: p11 :: p12 :: p13 :: p14 :: a :: l := .tail _ M14
theorem M16 : a ∈ p0 :: p1 :: p2 :: p3 :: p4 :: p5 :: p6 :: p7 :: p8 :: p9 :: p10 :: p11 :: p12 :: p13 :: p14 :: p15 :: a :: l := .tail _ M15
theorem M17 : a ∈ p0 :: p1 :: p2 :: p3 :: p4 :: p5 :: p6 :: p7 :: p8 :: p9 :: p10 :: p11 :: p12 :: p13 :: p14 :: p15 :: p16 :: a :: l := .tail _ M16
theorem M18 : a ∈ p0 :: p1 :: p2 :: p3 :: p4 :: p5 :: p6 :: p7 :: p8 :: p9 :: p10 :: p11 :: p12 :: p13 :: p14 :: p15 :: p16 :: p17 :: a :: l := .tail _ M17
theorem M19 : a ∈ p0 :: p1 :: p2 :: p3 :: p4 :: p5 :: p6 :: p7 :: p8 :: p9 :: p10 :: p11 :: p12 :: p13 :: p14 :: p15 :: p16 :: p17 :: p18 :: a :: l := .tail _ M18
theorem M20 : a ∈ p0 :: p1 :: p2 :: p3 :: p4 :: p5 :: p6 :: p7 :: p8 :: p9 :: p10 :: p11 :: p12 :: p13 :: p14 :: p15 :: p16 :: p17 :: p18 :: p19 :: a :: l := .tail _ M19
theorem M21 : a ∈ p0 :: p1 :: p2 :: p3 :: p4 :: p5 :: p6 :: p7 :: p8 :: p9 :: p10 :: p11 :: p12 :: p13 :: p14 :: p15 :: p16 :: p17 :: p18 :: p19 :: p20 :: a :: l := .tail _ M20
theorem M22 : a ∈ p0 :: p1 :: p2 :: p3 :: p4 :: p5 :: p6 :: p7 :: p8 :: p9 :: p10 :: p11 :: p12 :: p13 :: p14 :: p15 :: p16 :: p17 :: p18 :: p19 :: p20 :: p21 :: a :: l := .tail _ M21
theorem M23 : a ∈ p0 :: p1 :: p2 :: p3 :: p4 :: p5 :: p6 :: p7 :: p8 :: p9 :: p10 :: p11 :: p12 :: p13 :: p14 :: p15 :: p16 :: p17 :: p18 :: p19 :: p20 :: p21 :: p22 :: a :: l := .tail _ M22
theorem M24 : a ∈ p0 :: p1 :: p2 :: p3 :: p4 :: p5 :: p6 :: p7 :: p8 :: p9 :: p10 :: p11 :: p12 :: p13 :: p14 :: p15 :: p16 :: p17 :: p18 :: p19 :: p20 :: p21 :: p22 :: p23 :: a :: l := .tail _ M23
theorem M25 : a ∈ p0 :: p1 :: p2 :: p3 :: p4 :: p5 :: p6 :: p7 :: p8 :: p9 :: p10 :: p11 :: p12 :: p13 :: p14 :: p15 :: p16 :: p17 :: p18 :: p19 :: p20 :: p21 :: p22 :: p23 :: p24 :: a :: l := .tail _ M24
theorem N1 (h : a ∈ l) : a ∈ p0 :: l := .tail _ h
theorem N2 (h : a ∈ l) : a ∈ p0 :: p1 :: l := .tail _ (N1 h)
theorem N3 (h : a ∈ l) : a ∈ p0 :: p1 :: p2 :: l := .tail _ (N2 h)
theorem N4 (h : a ∈ l) : a ∈ p0 :: p1 :: p2 :: p3 :: l := .tail _ (N3 h)
theorem N5 (h : a ∈ l) : a ∈ p0 :: p1 :: p2 :: p3 :: p4 :: l := .tail _ (N4 h)
theorem N6 (h : a ∈ l) : a ∈ p0 :: p1 :: p2 :: p3 :: p4 :: p5 :: l := .tail _ (N5 h)
theorem N7 (h : a ∈ l) : a ∈ p0 :: p1 :: p2 :: p3 :: p4 :: p5 :: p6 :: l := .tail _ (N6 h)
theorem N8 (h : a ∈ l) : a ∈ p0 :: p1 :: p2 :: p3 :: p4 :: p5 :: p6 :: p7 :: l := .tail _ (N7 h)
theorem N9 (h : a ∈ l) : a ∈ p0 :: p1 :: p2 :: p3 :: p4 :: p5 :: p6 :: p7 :: p8 :: l := .tail _ (N8 h)
theorem N10 (h : a ∈ l) : a ∈ p0 :: p1 :: p2 :: p3 :: p4 :: p5 :: p6 :: p7 :: p8 :: p9 :: l := .tail _ (N9 h)
theorem N11 (h : a ∈ l) : a ∈ p0 :: p1 :: p2 :: p3 :: p4 :: p5 :: p6 :: p7 :: p8 :: p9 :: p10 :: l := .tail _ (N10 h)
theorem N12 (h : a ∈ l) : a ∈ p0 :: p1 :: p2 :: p3 :: p4 :: p5 :: p6 :: p7 :: p8 :: p9 :: p10 :: p11 :: l := .tail _ (N11 h)
end
section
variable {x : Str} {v : Value} {o : Option Value} {r : A0e} {p0 p1 p2 p3 p4 p5 p6 p7 p8 p9 p10 p11 p12 p13 p14 p15 p16 p17 p18 p19 p20 p21 p22 p23 p24 p25 : Str × Option Value}
theorem V0 : VUpd x v ((x, o) :: r) ((x, some v) :: r) := .head
theorem V1 : VUpd x v (p0 :: (x, o) :: r) (p0 :: (x, some v) :: r) := .tail V0
theorem V2 : VUpd x v (p0 :: p1 :: (x, o) :: r) (p0 :: p1 :: (x, some v) :: r) := .tail V1
theorem V3 : VUpd x v (p0 :: p1 :: p2 :: (x, o) :: r) (p0 :: p1 :: p2 :: (x, some v) :: r) := .tail V2
theorem V4 : VUpd x v (p0 :: p1 :: p2 :: p3 :: (x, o) :: r) (p0 :: p1 :: p2 :: p3 :: (x, some v) :: r) := .tail V3
theorem V5 : VUpd x v (p0 :: p1 :: p2 :: p3 :: p4 :: (x, o) :: r) (p0 :: p1 :: p2 :: p3 :: p4 :: (x, some v) :: r) := .tail V4
theorem V6 : VUpd x v (p0 :: p1 :: p2 :: p3 :: p4 :: p5 :: (x, o) :: r) (p0 :: p1 :: p2 :: p3 :: p4 :: p5 :: (x, some v) :: r) := .tail V5
theorem V7 : VUpd x v (p0 :: p1 :: p2 :: p3 :: p4 :: p5 :: p6 :: (x, o) :: r) (p0 :: p1 :: p2 :: p3 :: p4 :: p5 :: p6 :: (x, some v) :: r) := .tail V6
theorem V8 : VUpd x v (p0 :: p1 :: p2 :: p3 :: p4 :: p5 :: p6 :: p7 :: (x, o) :: r) (p0 :: p1 :: p2 :: p3 :: p4 :: p5 :: p6 :: p7 :: (x, some v) :: r) := .tail V7
theorem V9 : VUpd x v (p0 :: p1 :: p2 :: p3 :: p4 :: p5 :: p6 :: p7 :: p8 :: (x, o) :: r) (p0 :: p1 :: p2 :: p3 :: p4 :: p5 :: p6 :: p7 :: p8 :: (x, some v) :: r) := .tail V8
theorem V10 : VUpd x v (p0 :: p1 :: p2 :: p3 :: p4 :: p5 :: p6 :: p7 :: p8 :: p9 :: (x, o) :: r) (p0 :: p1 :: p2 :: p3 :: p4 :: p5 :: p6 :: p7 :: p8 :: p9 :: (x, some v) :: r) := .tail V9
theorem V11 : VUpd x v (p0 :: p1 :: p2 :: p3 :: p4 :: p5 :: p6 :: p7 :: p8 :: p9 :: p10 :: (x, o) :: r) (p0 :: p1 :: p2 :: p3 :: p4 :: p5 :: p6 :: p7 :: p8 :: p9 :: p10 :: (x, some v) :: r) := .tail V10
theorem V12 : VUpd x v (p0 :: p1 :: p2 :: p3 :: p4 :: p5 :: p6 :: p7 :: p8 :: p9 :: p10 :: p11 :: (x, o) :: r) (p0 :: p1 :: p2 :: p3 :: p4 :: p5 :: p6 :: p7 :: p8 :: p9 :: p10 :: p11 :: (x, some v) :: r) := .tail V11
theorem V13 : VUpd x v (p0 :: p1 :: p2 :: p3 :: p4 :: p5 :: p6 :: p7 :: p8 :: p9 :: p10 :: p11 :: p12 :: (x, o) :: r) (p0 :: p1 :: p2 :: p3 :: p4 :: p5 :: p6 :: p7 :: p8 :: p9 :: p10 :: p11 :: p12 :: (x, some v) :: r) := .tail V12
theorem V14 : VUpd x v (p0 :: p1 :: p2 :: p3 :: p4 :: p5 :: p6 :: p7 :: p8 :: p9 :: p10 :: p11 :: p12 :: p13 :: (x, o) :: r) (p0 :: p1 :: p2 :: p3 :: p4 :: p5 :: p6 :: p7 :: p8 :: p9 :: p10 :: p11 :: p12 :: p13 :: (x, some v) :: r) := .tail V13
theorem V15 : VUpd x v (p0 :: p1 :: p2 :: p3 :: p4 :: p5 :: p6 :: p7 :: p8 :: p9 :: p10 :: p11 :: p12 :: p13 :: p14 :: (x, o) :: r) (p0 :: p1 :: p2 :: p3 :: p4 :: p5 :: p6 :: p7 :: p8 :: p9 :: p10 :: p11 :: p12 :: p13 :: p14 :: (x, some v) :: r) := .tail V14
theorem V16 : VUpd x v (p0 :: p1 :: p2 :: p3 :: p4 :: p5 :: p6 :: p7 :: p8 :: p9 :: p10 :: p11 :: p12 :: p13 :: p14 :: p15 :: (x, o) :: r) (p0 :: p1 :: p2 :: p3 :: p4 :: p5 :: p6 :: p7 :: p8 :: p9 :: p10 :: p11 :: p12 :: p13 :: p14 :: p15 :: (x, some v) :: r) := .tail V15
theorem V17 : VUpd x v (p0 :: p1 :: p2 :: p3 :: p4 :: p5 :: p6 :: p7 :: p8 :: p9 :: p10 :: p11 :: p12 :: p13 :: p14 :: p15 :: p16 :: (x, o) :: r) (p0 :: p1 :: p2 :: p3 :: p4 :: p5 :: p6 :: p7 :: p8 :: p9 :: p10 :: p11 :: p12 :: p13 :: p14 :: p15 :: p16 :: (x, some v) :: r) := .tail V16
theorem V18 : VUpd x v (p0 :: p1 :: p2 :: p3 :: p4 :: p5 :: p6 :: p7 :: p8 :: p9 :: p10 :: p11 :: p12 :: p13 :: p14 :: p15 :: p16 :: p17 :: (x, o) :: r) (p0 :: p1 :: p2 :: p3 :: p4 :: p5 :: p6 :: p7 :: p8 :: p9 :: p10 :: p11 :: p12 :: p13 :: p14 :: p15 :: p16 :: p17 :: (x, some v) :: r) := .tail V17
theorem V19 : VUpd x v (p0 :: p1 :: p2 :: p3 :: p4 :: p5 :: p6 :: p7 :: p8 :: p9 :: p10 :: p11 :: p12 :: p13 :: p14 :: p15 :: p16 :: p17 :: p18 :: (x, o) :: r) (p0 :: p1 :: p2 :: p3 :: p4 :: p5 :: p6 :: p7 :: p8 :: p9 :: p10 :: p11 :: p12 :: p13 :: p14 :: p15 :: p16 :: p17 :: p18 :: (x, some v) :: r) := .tail V18
theorem V20 : VUpd x v (p0 :: p1 :: p2 :: p3 :: p4 :: p5 :: p6 :: p7 :: p8 :: p9 :: p10 :: p11 :: p12 :: p13 :: p14 :: p15 :: p16 :: p17 :: p18 :: p19 :: (x, o) :: r) (p0 :: p1 :: p2 :: p3 :: p4 :: p5 :: p6 :: p7 :: p8 :: p9 :: p10 :: p11 :: p12 :: p13 :: p14 :: p15 :: p16 :: p17 :: p18 :: p19 :: (x, some v) :: r) := .tail V19
theorem V21 : VUpd x v (p0 :: p1 :: p2 :: p3 :: p4 :: p5 :: p6 :: p7 :: p8 :: p9 :: p10 :: p11 :: p12 :: p13 :: p14 :: p15 :: p16 :: p17 :: p18 :: p19 :: p20 :: (x, o) :: r) (p0 :: p1 :: p2 :: p3 :: p4 :: p5 :: p6 :: p7 :: p8 :: p9 :: p10 :: p11 :: p12 :: p13 :: p14 :: p15 :: p16 :: p17 :: p18 :: p19 :: p20 :: (x, some v) :: r) := .tail V20
theorem V22 : VUpd x v (p0 :: p1 :: p2 :: p3 :: p4 :: p5 :: p6 :: p7 :: p8 :: p9 :: p10 :: p11 :: p12 :: p13 :: p14 :: p15 :: p16 :: p17 :: p18 :: p19 :: p20 :: p21 :: (x, o) :: r) (p0 :: p1 :: p2 :: p3 :: p4 :: p5 :: p6 :: p7 :: p8 :: p9 :: p10 :: p11 :: p12 :: p13 :: p14 :: p15 :: p16 :: p17 :: p18 :: p19 :: p20 :: p21 :: (x, some v) :: r) := .tail V21
theorem V23 : VUpd x v (p0 :: p1 :: p2 :: p3 :: p4 :: p5 :: p6 :: p7 :: p8 :: p9 :: p10 :: p11 :: p12 :: p13 :: p14 :: p15 :: p16 :: p17 :: p18 :: p19 :: p20 :: p21 :: p22 :: (x, o) :: r) (p0 :: p1 :: p2 :: p3 :: p4 :: p5 :: p6 :: p7 :: p8 :: p9 :: p10 :: p11 :: p12 :: p13 :: p14 :: p15 :: p16 :: p17 :: p18 :: p19 :: p20 :: p21 :: p22 :: (x, some v) :: r) := .tail V22
theorem V24 : VUpd x v (p0 :: p1 :: p2 :: p3 :: p4 :: p5 :: p6 :: p7 :: p8 :: p9 :: p10 :: p11 :: p12 :: p13 :: p14 :: p15 :: p16 :: p17 :: p18 :: p19 :: p20 :: p21 :: p22 :: p23 :: (x, o) :: r) (p0 :: p1 :: p2 :: p3 :: p4 :: p5 :: p6 :: p7 :: p8 :: p9 :: p10 :: p11 :: p12 :: p13 :: p14 :: p15 :: p16 :: p17 :: p18 :: p19 :: p20 :: p21 :: p22 :: p23 :: (x, some v) :: r) := .tail V23
theorem V25 : VUpd x v (p0 :: p1 :: p2 :: p3 :: p4 :: p5 :: p6 :: p7 :: p8 :: p9 :: p10 :: p11 :: p12 :: p13 :: p14 :: p15 :: p16 :: p17 :: p18 :: p19 :: p20 :: p21 :: p22 :: p23 :: p24 :: (x, o) :: r) (p0 :: p1 :: p2 :: p3 :: p4 :: p5 :: p6 :: p7 :: p8 :: p9 :: p10 :: p11 :: p12 :: p13 :: p14 :: p15 :: p16 :: p17 :: p18 :: p19 :: p20 :: p21 :: p22 :: p23 :: p24 :: (x, some v) :: r) := .tail V24
end
section
variable {x : Str} {v o : Value} {r : List (Str × Value)} {p0 p1 p2 p3 p4 p5 p6 p7 p8 p9 p10 p11 : Str × Value}
theorem F0 : FUpd x v ((x, o) :: r) ((x, v) :: r) := .head
theorem F1 : FUpd x v (p0 :: (x, o) :: r) (p0 :: (x, v) :: r) := .tail F0
theorem F2 : FUpd x v (p0 :: p1 :: (x, o) :: r) (p0 :: p1 :: (x, v) :: r) := .tail F1
theorem F3 : FUpd x v (p0 :: p1 :: p2 :: (x, o) :: r) (p0 :: p1 :: p2 :: (x, v) :: r) := .tail F2
theorem F4 : FUpd x v (p0 :: p1 :: p2 :: p3 :: (x, o) :: r) (p0 :: p1 :: p2 :: p3 :: (x, v) :: r) := .tail F3
theorem F5 : FUpd x v (p0 :: p1 :: p2 :: p3 :: p4 :: (x, o) :: r) (p0 :: p1 :: p2 :: p3 :: p4 :: (x, v) :: r) := .tail F4
theorem F6 : FUpd x v (p0 :: p1 :: p2 :: p3 :: p4 :: p5 :: (x, o) :: r) (p0 :: p1 :: p2 :: p3 :: p4 :: p5 :: (x, v) :: r) := .tail F5
theorem F7 : FUpd x v (p0 :: p1 :: p2 :: p3 :: p4 :: p5 :: p6 :: (x, o) :: r) (p0 :: p1 :: p2 :: p3 :: p4 :: p5 :: p6 :: (x, v) :: r) := .tail F6
theorem F8 : FUpd x v (p0 :: p1 :: p2 :: p3 :: p4 :: p5 :: p6 :: p7 :: (x, o) :: r) (p0 :: p1 :: p2 :: p3 :: p4 :: p5 :: p6 :: p7 :: (x, v) :: r) := .tail F7
theorem F9 : FUpd x v (p0 :: p1 :: p2 :: p3 :: p4 :: p5 :: p6 :: p7 :: p8 :: (x, o) :: r) (p0 :: p1 :: p2 :: p3 :: p4 :: p5 :: p6 :: p7 :: p8 :: (x, v) :: r) := .tail F8
theorem F10 : FUpd x v (p0 :: p1 :: p2 :: p3 :: p4 :: p5 :: p6 :: p7 :: p8 :: p9 :: (x, o) :: r) (p0 :: p1 :: p2 :: p3 :: p4 :: p5 :: p6 :: p7 :: p8 :: p9 :: (x, v) :: r) := .tail F9
theorem F11 : FUpd x v (p0 :: p1 :: p2 :: p3 :: p4 :: p5 :: p6 :: p7 :: p8 :: p9 :: p10 :: (x, o) :: r) (p0 :: p1 :: p2 :: p3 :: p4 :: p5 :: p6 :: p7 :: p8 :: p9 :: p10 :: (x, v) :: r) := .tail F10
end
section
variable {a : Addr} {lo lo' : LObj} {r : Led} {p0 p1 p2 p3 p4 p5 p6 p7 p8 p9 p10 p11 p12 p13 p14 p15 p16 p17 p18 p19 p20 p21 p22 p23 p24 p25 : Addr × LObj}
theorem U0 : Upd1 a lo lo' ((a, lo) :: r) ((a, lo') :: r) := .head
theorem U1 : Upd1 a lo lo' (p0 :: (a, lo) :: r) (p0 :: (a, lo') :: r) := .tail U0
theorem U2 : Upd1 a lo lo' (p0 :: p1 :: (a, lo) :: r) (p0 :: p1 :: (a, lo') :: r) := .tail U1
theorem U3 : Upd1 a lo lo' (p0 :: p1 :: p2 :: (a, lo) :: r) (p0 :: p1 :: p2 :: (a, lo') :: r) := .tail U2
theorem U4 : Upd1 a lo lo' (p0 :: p1 :: p2 :: p3 :: (a, lo) :: r) (p0 :: p1 :: p2 :: p3 :: (a, lo') :: r) := .tail U3
theorem U5 : Upd1 a lo lo' (p0 :: p1 :: p2 :: p3 :: p4 :: (a, lo) :: r) (p0 :: p1 :: p2 :: p3 :: p4 :: (a, lo') :: r) := .tail U4
theorem U6 : Upd1 a lo lo' (p0 :: p1 :: p2 :: p3 :: p4 :: p5 :: (a, lo) :: r) (p0 :: p1 :: p2 :: p3 :: p4 :: p5 :: (a, lo') :: r) := .tail U5
theorem U7 : Upd1 a lo lo' (p0 :: p1 :: p2 :: p3 :: p4 :: p5 :: p6 :: (a, lo) :: r) (p0 :: p1 :: p2 :: p3 :: p4 :: p5 :: p6 :: (a, lo') :: r) := .tail U6
theorem U8 : Upd1 a lo lo' (p0 :: p1 :: p2 :: p3 :: p4 :: p5 :: p6 :: p7 :: (a, lo) :: r) (p0 :: p1 :: p2 :: p3 :: p4 :: p5 :: p6 :: p7 :: (a, lo') :: r) := .tail U7
theorem U9 : Upd1 a lo lo' (p0 :: p1 :: p2 :: p3 :: p4 :: p5 :: p6 :: p7 :: p8 :: (a, lo) :: r) (p0 :: p1 :: p2 :: p3 :: p4 :: p5 :: p6 :: p7 :: p8 :: (a, lo') :: r) := .tail U8
theorem U10 : Upd1 a lo lo' (p0 :: p1 :: p2 :: p3 :: p4 :: p5 :: p6 :: p7 :: p8 :: p9 :: (a, lo) :: r) (p0 :: p1 :: p2 :: p3 :: p4 :: p5 :: p6 :: p7 :: p8 :: p9 :: (a, lo') :: r) := .tail U9
theorem E0 : Ex a lo ((a, lo) :: r) (r) := .head
theorem E1 : Ex a lo (p0 :: (a, lo) :: r) (p0 :: r) := .tail E0
theorem E2 : Ex a lo (p0 :: p1 :: (a, lo) :: r) (p0 :: p1 :: r) := .tail E1
theorem E3 : Ex a lo (p0 :: p1 :: p2 :: (a, lo) :: r) (p0 :: p1 :: p2 :: r) := .tail E2
theorem E4 : Ex a lo (p0 :: p1 :: p2 :: p3 :: (a, lo) :: r) (p0 :: p1 :: p2 :: p3 :: r) := .tail E3
theorem E5 : Ex a lo (p0 :: p1 :: p2 :: p3 :: p4 :: (a, lo) :: r) (p0 :: p1 :: p2 :: p3 :: p4 :: r) := .tail E4
theorem E6 : Ex a lo (p0 :: p1 :: p2 :: p3 :: p4 :: p5 :: (a, lo) :: r) (p0 :: p1 :: p2 :: p3 :: p4 :: p5 :: r) := .tail E5
theorem E7 : Ex a lo (p0 :: p1 :: p2 :: p3 :: p4 :: p5 :: p6 :: (a, lo) :: r) (p0 :: p1 :: p2 :: p3 :: p4 :: p5 :: p6 :: r) := .tail E6
theorem E8 : Ex a lo (p0 :: p1 :: p2 :: p3 :: p4 :: p5 :: p6 :: p7 :: (a, lo) :: r) (p0 :: p1 :: p2 :: p3 :: p4 :: p5 :: p6 :: p7 :: r) := .tail E7
theorem E9 : Ex a lo (p0 :: p1 :: p2 :: p3 :: p4 :: p5 :: p6 :: p7 :: p8 :: (a, lo) :: r) (p0 :: p1 :: p2 :: p3 :: p4 :: p5 :: p6 :: p7 :: p8 :: r) := .tail E8
theorem E10 : Ex a lo (p0 :: p1 :: p2 :: p3 :: p4 :: p5 :: p6 :: p7 :: p8 :: p9 :: (a, lo) :: r) (p0 :: p1 :: p2 :: p3 :: p4 :: p5 :: p6 :: p7 :: p8 :: p9 :: r) := .tail E9
theorem E11 : Ex a lo (p0 :: p1 :: p2 :: p3 :: p4 :: p5 :: p6 :: p7 :: p8 :: p9 :: p10 :: (a, lo) :: r) (p0 :: p1 :: p2 :: p3 :: p4 :: p5 :: p6 :: p7 :: p8 :: p9 :: p10 :: r) := .tail E10
theorem E12 : Ex a lo (p0 :: p1 :: p2 :: p3 :: p4 :: p5 :: p6 :: p7 :: p8 :: p9 :: p10 :: p11 :: (a, lo) :: r) (p0 :: p1 :: p2 :: p3 :: p4 :: p5 :: p6 :: p7 :: p8 :: p9 :: p10 :: p11 :: r) := .tail E11
end
end Mine
namespace Mine
noncomputable abbrev VP := Value → A0e → Led → Prop
noncomputable abbrev FP := Flow → A0e → Led → Prop
section
variable (Γ : Cx) (env : Env) (pos : Pos) (Q : VP) (QB : Bool → A0e → Led → Prop) (QF : FP) (rest : List Stmt) (k : List (List Stmt))
@[reducible] noncomputable def KGet (n : Str) : VP := fun o vs led => Run Γ vs led (getAttr o n true) Q
@[reducible] noncomputable def KFun (args : List Expr) : VP := fun f vs led => Run Γ vs led (callWith pos f [] (backTo pos (starEach args env)) []) Q
@[reducible] noncomputable def KMe2 (args : List Expr) : Value × List Value → A0e → Led → Prop := fun fx vs led => Run Γ vs led (callWith pos fx.1 fx.2 (backTo pos (starEach args env)) []) Q
@[reducible] noncomputable def KMe (n : Str) (pl : Sem Bool) (args : List Expr) : VP := fun o vs led => Run Γ vs led (getMethod o n pl) (KMe2 Γ env pos Q args)
@[reducible] noncomputable def B5b (P : List Value → A0e → Led → Prop) (v : Value) : List Value → A0e → Led → Prop := fun as vs led => P (v :: as) vs led
@[reducible] noncomputable def C0r (P : List Value → A0e → Led → Prop) (r : List Expr) : VP := fun v vs led => Run Γ vs led (spliced (backTo pos (starEach r env))) (B5b P v)
@[reducible] noncomputable def KDo (f : Value) : List Value → A0e → Led → Prop := fun as vs led => Run Γ vs led (call f as) Q
@[reducible] noncomputable def KDo1 (f s : Value) : List Value → A0e → Led → Prop := fun as vs led => Run Γ vs led (call f (s :: as)) Q
@[reducible] noncomputable def B8p (op : Operator) (a : Value) : VP := fun b vs led => Run Γ vs led (binaryOp op a b) Q
@[reducible] noncomputable def KBin (op : Operator) (r : Expr) : VP := fun a vs led => Run Γ vs led (eval r env) (B8p Γ Q op a)
@[reducible] noncomputable def KUn (op : UnaryOp) : VP := fun a vs led => Run Γ vs led (unaryOp op a) Q
@[reducible] noncomputable def B8o (op : CmpOp) (a : Value) : VP := fun b vs led => Run Γ vs led (compareOp op a b) Q
@[reducible] noncomputable def KCmp (op : CmpOp) (r : Expr) : VP := fun a vs led => Run Γ vs led (eval r env) (B8o Γ Q op a)
@[reducible] noncomputable def KTr : VP := fun v vs led => Run Γ vs led (truthy v) QB
@[reducible] noncomputable def B8m (value slice : Expr) (o : Value) : VP := fun i vs led => Run Γ vs led (subscriptTail value slice o i) Q
@[reducible] noncomputable def KSub (value slice : Expr) : VP := fun o vs led => Run Γ vs led (eval slice env) (B8m Γ Q value slice o)
@[reducible] noncomputable def KTup : List Value → A0e → Led → Prop := fun as vs led => Run Γ vs led (newTuple as) Q
@[reducible] noncomputable def KLis : List Value → A0e → Led → Prop := fun as vs led => Run Γ vs led (newList as) Q
@[reducible] noncomputable def KRet : VP := fun v vs led => QF (.ret v) vs led
@[reducible] noncomputable def B2n (rest : List Stmt) (k : List (List Stmt)) : Unit → A0e → Led → Prop := fun _ vs led => Do Γ vs led (rest :: k) QF
@[reducible] noncomputable def KAs (x : Str) : VP := fun v vs led => ∃ vs', VUpd x v vs vs' ∧ Do Γ vs' led (rest :: k) QF
@[reducible] noncomputable def C0p (n : Str) (v : Value) : VP := fun o vs led => Run Γ vs led (setAttr o n v) (B2n Γ QF rest k)
@[reducible] noncomputable def B8u (o : Expr) (n : Str) : VP := fun v vs led => Run Γ vs led (eval o Γ.env) (C0p Γ QF rest k n v)
@[reducible] noncomputable def KTp (elts : List Expr) (m : Nat) (tp : Pos) : VP := fun v vs led => Run Γ vs led (assign (.Tuple elts m tp) Γ.env v) (B2n Γ QF rest k)
@[reducible] noncomputable def KSi3 (o v : Value) : VP := fun i vs led => Run Γ vs led (setItem o i v) (B2n Γ QF rest k)
@[reducible] noncomputable def KSi2 (i : Expr) (v : Value) : VP := fun o vs led => Run Γ vs led (eval i Γ.env) (KSi3 Γ QF rest k o v)
@[reducible] noncomputable def KSi (o i : Expr) : VP := fun v vs led => Run Γ vs led (eval o Γ.env) (KSi2 Γ QF rest k i v)
@[reducible] noncomputable def KIn (op : Operator) (a : Value) : VP := fun b vs led => Run Γ vs led (inplaceOp op a b) Q
@[reducible] noncomputable def KSt (o : Value) (n : Str) : VP := fun r vs led => Run Γ vs led (setAttr o n r) (B2n Γ QF rest k)
@[reducible] noncomputable def KExp : VP := fun v vs led => (match v with | .ref _ => False | _ => True) ∧ Do Γ vs led (rest :: k) QF
@[reducible] noncomputable def KIf (body orelse : List Stmt) : Bool → A0e → Led → Prop := fun b vs led => (b = true → Do Γ vs led (body :: rest :: k) QF) ∧ (b = false → Do Γ vs led (orelse :: rest :: k) QF)
@[reducible] noncomputable def KNot : Bool → A0e → Led → Prop := fun b vs led => QB (!b) vs led
@[reducible] noncomputable def KAnd (r : List Expr) (whole : Sem Value) : Bool → A0e → Led → Prop := fun b vs led => (b = true → Run Γ vs led (PySem.isTrue (.BoolOp .And r pos) env whole) QB) ∧ (b = false → QB false vs led)
@[reducible] noncomputable def KOr (r : List Expr) (whole : Sem Value) : Bool → A0e → Led → Prop := fun b vs led => (b = true → QB true vs led) ∧ (b = false → Run Γ vs led (PySem.isTrue (.BoolOp .Or r pos) env whole) QB)
end
inductive Snoc : List (Str × Value) → Str × Value → List (Str × Value) → Prop
 | nil {p} : Snoc [] p [p]
 | cons {a l p l'} (S : Snoc l p l') : Snoc (a :: l) p (a :: l')
theorem Snoc.eq {l l' : List (Str × Value)} {p : Str × Value} (S : Snoc l p l') : l' = l ++ [p] := by
 induction S with
 | nil => rfl
 | cons _ ih => rw [ih]; rfl
structure Ev (Γ : Cx) (vs : A0e) (led : Led) (env : Env) (e : Expr) (v : Value) : Prop where
 run : ∀ Q : VP, Q v vs led → Run Γ vs led (eval e env) Q
 star : ∀ r, starEach (e :: r) env = (false, eval e env) :: starEach r env
inductive Evs (Γ : Cx) (vs : A0e) (led : Led) (env : Env) : List Expr → List Value → Prop
 | nil : Evs Γ vs led env [] []
 | cons {e v es as} (E : Ev Γ vs led env e v) (A : Evs Γ vs led env es as) : Evs Γ vs led env (e :: es) (v :: as)
section
variable {Γ : Cx} {vs vs' : A0e} {led led' : Led} {env : Env} {e : Expr} {v : Value} {x : Str} {p pos : Pos} {L : List Str}
theorem B6G (hg : Γ.gl = L) (hx : x ∈ L) : x ∈ Γ.gl := hg ▸ hx
theorem En (hm : (x, some v) ∈ vs) : Ev Γ vs led Γ.env (.Name x p) v := ⟨fun _ q => B3y hm q, fun _ => rfl⟩
theorem Eg (hv : GV x v) (hg : Γ.gl = L) (hx : x ∈ L) : Ev Γ vs led Γ.env (.Name x p) v := ⟨fun _ q => B4Y (B6G hg hx) hv q, fun _ => rfl⟩
theorem Eb (hv : GB x v) (hg : Γ.gl = L) (hx : x ∈ L) : Ev Γ vs led Γ.env (.Name x p) v := ⟨fun _ q => B4Z (B6G hg hx) hv q, fun _ => rfl⟩
theorem Eo {k : Nat} : Ev Γ vs led env (.Constant .none k p) .none := ⟨fun _ q => B8i q, fun _ => rfl⟩
theorem Et {b : Bool} {k : Nat} : Ev Γ vs led env (.Constant (.bool b) k p) (.bool b) := ⟨fun _ q => B8k q, fun _ => rfl⟩
theorem Ea {n : Str} {a C d : Addr} {fs : List (Str × Value)} (hm : (x, some (.ref a)) ∈ vs) (hx : (a, LObj.inst C d) ∈ led) (hd : (d, LObj.flds fs) ∈ led) (hf : (n, v) ∈ fs) (k : Fld C n) (hv : handedIn v = true) :
  Ev Γ vs led Γ.env (.Attribute (.Name x p) n pos) v := ⟨fun _ q => B3B (B3y hm (A6b hx hd hf k hv q)), fun _ => rfl⟩
theorem Eaa {o : Expr} {n : Str} {a C d : Addr} {fs : List (Str × Value)} (E : Ev Γ vs led env o (.ref a)) (hx : (a, LObj.inst C d) ∈ led) (hd : (d, LObj.flds fs) ∈ led) (hf : (n, v) ∈ fs) (k : Fld C n) (hv : handedIn v = true)
  (he : eval (.Attribute o n pos) env = (do
   let o' ← eval o env
   standAt pos.atName
   let r ← holding [o'] (getAttr o' n true)
   letTemporaryGo o o' r
   pure r)) : Ev Γ vs led env (.Attribute o n pos) v := ⟨fun _ q => B3B (E.run _ (A6b hx hd hf k hv q)) he, fun _ => rfl⟩
theorem Ec {scope : Scope} {cl : List (Str × Addr)} {C : Addr} {vc : A0e} (hm : (C, LObj.ns vc) ∈ led) (hv : asc vc x = some v) (hk : scope.kind = .function) (hx : scope.names.lookup x = some .local) (hd : (x == ("__debug__" : Str)) = false) :
  Ev Γ vs led (compEnvC scope cl C Γ.env) (.Name x p) v := ⟨fun _ q => B8r hm hv hk hx hd q, fun _ => rfl⟩
theorem Evs.spl {es : List Expr} {as : List Value} (A : Evs Γ vs led env es as) : ∀ {Q : List Value → A0e → Led → Prop}, Q as vs led → Run Γ vs led (spliced (backTo pos (starEach es env))) Q := by
 induction A with
 | nil => intro Q q; exact A6D q
 | cons E A ih => intro Q q; exact A3J (E.run _ (ih q)) (E.star _)
theorem Evs.plain {es : List Expr} {as : List Value} (A : Evs Γ vs led env es as) : (backTo pos (starEach es env)).any (·.1) = false := by
 induction A with
 | nil => rfl
 | cons E A ih =>
  rw [E.star]
  show (false || (backTo pos (starEach _ env)).any (·.1)) = false
  rw [ih]; rfl
variable {Q : VP}
theorem rE (E : Ev Γ vs led env e v) (q : Q v vs led) : Run Γ vs led (eval e env) Q := E.run Q q
inductive Callee : Value → Prop
 | fn {f : Addr} (k : A0B f) : Callee (.ref f)
 | bi {id : String} : Callee (.builtin id)
 | ty {T : String} : Callee (.type T)
inductive Callee1 : Value → Prop
 | fn {f : Addr} (k : A0B f) : Callee1 (.ref f)
 | bi {id : String} : Callee1 (.builtin id)
theorem B8v {f : Value} {es : List Expr} {as : List Value} (K : Callee f) (A : Evs Γ vs led env es as) (q : Run Γ vs led (call f as) Q) : Run Γ vs led (callWith pos f [] (backTo pos (starEach es env)) []) Q := by
 cases A with
 | nil =>
  cases K with
  | fn k => exact A6c k q
  | bi => exact A9b q
  | ty => exact B2k q
 | cons E A =>
  have h := Evs.spl (pos := pos) (Evs.cons E A) (Q := fun as vs led => Run Γ vs led (call f as) Q) q
  cases K with
  | fn k => exact A4j k h (E.star _) A.plain
  | bi => exact A7f h (E.star _) A.plain
  | ty => exact B1f h (E.star _) A.plain
theorem B5g {f s : Value} {es : List Expr} {as : List Value} (K : Callee1 f) (A : Evs Γ vs led env es as) (q : Run Γ vs led (call f (s :: as)) Q) : Run Γ vs led (callWith pos f [s] (backTo pos (starEach es env)) []) Q := by
 cases A with
 | nil =>
  cases K with
  | fn k => exact A6c k q
  | bi => exact A9b q
 | cons E A =>
  have h := Evs.spl (pos := pos) (Evs.cons E A) (Q := fun as vs led => Run Γ vs led (call f (s :: as)) Q) q
  cases K with
  | fn k => exact A4j k h (E.star _) A.plain
  | bi => exact A7f h (E.star _) A.plain
theorem B5h {f : Value} {e : Expr} {es : List Expr} (K : Callee f) (he : starEach (e :: es) env = (false, eval e env) :: starEach es env) (hp : (backTo pos (starEach es env)).any (·.1) = false) (H : Run Γ vs led (spliced (backTo pos (starEach (e :: es) env))) (KDo Γ Q f)) : Run Γ vs led (callWith pos f [] (backTo pos (starEach (e :: es) env)) []) Q := by
 cases K with
 | fn k => exact cN k H he hp
 | bi => exact cBN H he hp
 | ty => exact B1f H he hp
theorem B5f {f s : Value} {e : Expr} {es : List Expr} (K : Callee1 f) (he : starEach (e :: es) env = (false, eval e env) :: starEach es env) (hp : (backTo pos (starEach es env)).any (·.1) = false) (H : Run Γ vs led (spliced (backTo pos (starEach (e :: es) env))) (KDo1 Γ Q f s)) : Run Γ vs led (callWith pos f [s] (backTo pos (starEach (e :: es) env)) []) Q := by
 cases K with
 | fn k => exact cM k H he hp
 | bi => exact cBM H he hp
theorem rC {f : Value} {es : List Expr} {as : List Value} (E : Ev Γ vs led Γ.env (.Name x p) f) (K : Callee f) (A : Evs Γ vs led Γ.env es as) (q : Run Γ vs led (call f as) Q) : Run Γ vs led (eval (.Call (.Name x p) es [] pos) Γ.env) Q :=
 B3A (E.run _ (B8v K A q))
theorem rC' {f : Value} {e : Expr} {es : List Expr} (E : Ev Γ vs led Γ.env (.Name x p) f) (K : Callee f) (he : starEach (e :: es) Γ.env = (false, eval e Γ.env) :: starEach es Γ.env) (hp : (backTo pos (starEach es Γ.env)).any (·.1) = false) (H : Run Γ vs led (spliced (backTo pos (starEach (e :: es) Γ.env))) (KDo Γ Q f)) : Run Γ vs led (eval (.Call (.Name x p) (e :: es) [] pos) Γ.env) Q :=
 B3A (E.run _ (B5h K he hp H))
structure Gm (Γ : Cx) (vs : A0e) (led : Led) (a : Addr) (n : Str) (f : Value) : Prop where
 get : ∀ (pl : Sem Bool) (Q : Value × List Value → A0e → Led → Prop), Q (f, [.ref a]) vs led → Run Γ vs led (getMethod (.ref a) n pl) Q
 cal : Callee1 f
section
variable {o : Expr} {n : Str} {apos : Pos} {es : List Expr} {pl : Sem Bool} {a C d f : Addr} {fs : List (Str × Value)} {FN : List Str} {xs : List Value} {bs : Array UInt8} {w : World} {kvs : List (By × Value)}
theorem Gm.inst (hx : (a, LObj.inst C d) ∈ led) (hd : (d, LObj.flds fs) ∈ led) (K : A2X C n f ∧ n ∉ FN ∧ A0B f) (e : fs.map (·.1) = FN) : Gm Γ vs led a n (.ref f) := ⟨fun _ _ q => A7W hx hd K e q, .fn K.2.2⟩
theorem Gm.app (hm : (a, LObj.list xs) ∈ led) : Gm Γ vs led a "append" (.builtin "list.append") := ⟨fun _ _ q => B1D hm q, .bi⟩
theorem Gm.ins (hm : (a, LObj.list xs) ∈ led) : Gm Γ vs led a "insert" (.builtin "list.insert") := ⟨fun _ _ q => B1C hm q, .bi⟩
theorem Gm.pop (hm : (a, LObj.list xs) ∈ led) : Gm Γ vs led a "pop" (.builtin "list.pop") := ⟨fun _ _ q => B9l hm q, .bi⟩
theorem Gm.idx (hm : (a, LObj.list xs) ∈ led) : Gm Γ vs led a "index" (.builtin "list.index") := ⟨fun _ _ q => B3P hm q, .bi⟩
theorem Gm.bap (hm : (a, LObj.ba bs) ∈ led) : Gm Γ vs led a "append" (.builtin "bytearray.append") := ⟨fun _ _ q => A9n hm q, .bi⟩
theorem Gm.bex (hm : (a, LObj.ba bs) ∈ led) : Gm Γ vs led a "extend" (.builtin "bytearray.extend") := ⟨fun _ _ q => A9m hm q, .bi⟩
theorem Gm.get' (hw : Γ.w = w) (hm : (a, LObj.bdict w kvs) ∈ led) : Gm Γ vs led a "get" (.builtin "dict.get") := ⟨fun _ _ q => B6M hw hm q, .bi⟩
theorem rM {f : Value} {as : List Value} (E : Ev Γ vs led env o (.ref a)) (G : Gm Γ vs led a n f) (A : Evs Γ vs led env es as)
  (he : eval (.Call (.Attribute o n apos) es [] pos) env = (do
   let ov ← eval o env
   standAt apos.atName
   let (f, first) ← holding [ov] (getMethod ov n pl)
   callWith pos f first (backTo pos (starEach es env)) [])) (q : Run Γ vs led (call f (.ref a :: as)) Q) : Run Γ vs led (eval (.Call (.Attribute o n apos) es [] pos) env) Q :=
 A4d (E.run _ (G.get _ _ (B5g G.cal A q))) he
theorem rM' {f : Value} {e₁ : Expr} (E : Ev Γ vs led env o (.ref a)) (G : Gm Γ vs led a n f) (he : eval (.Call (.Attribute o n apos) (e₁ :: es) [] pos) env = (do
   let ov ← eval o env
   standAt apos.atName
   let (f, first) ← holding [ov] (getMethod ov n pl)
   callWith pos f first (backTo pos (starEach (e₁ :: es) env)) [])) (hs : starEach (e₁ :: es) env = (false, eval e₁ env) :: starEach es env) (hp : (backTo pos (starEach es env)).any (·.1) = false) (H : Run Γ vs led (spliced (backTo pos (starEach (e₁ :: es) env))) (KDo1 Γ Q f (.ref a))) : Run Γ vs led (eval (.Call (.Attribute o n apos) (e₁ :: es) [] pos) env) Q :=
 A4d (E.run _ (G.get _ _ (B5f G.cal hs hp H))) he
theorem kMe {f : Value} {as : List Value} (G : Gm Γ vs led a n f) (A : Evs Γ vs led env es as) (q : Run Γ vs led (call f (.ref a :: as)) Q) : KMe Γ env pos Q n pl es (.ref a) vs led := G.get _ _ (B5g G.cal A q)
end
section
variable {l r : Expr} {op : Operator} {a b : Value} {i : Int} {k : Nat}
theorem B5x {n : Str} {apos : Pos} {es : List Expr} {pl : Sem Bool} (he : eval (.Call (.Attribute e n apos) es [] pos) env = (do
   let ov ← eval e env
   standAt apos.atName
   let (f, first) ← holding [ov] (getMethod ov n pl)
   callWith pos f first (backTo pos (starEach es env)) [])) (H : Run Γ vs led (eval e env) (KMe Γ env pos Q n pl es)) : Run Γ vs led (eval (.Call (.Attribute e n apos) es [] pos) env) Q := A4d H he
theorem A0m {es : List Expr} {P : List Value → A0e → Led → Prop} (E : Ev Γ vs led env e v) (H : Run Γ vs led (spliced (backTo pos (starEach es env))) (B5b P v)) : Run Γ vs led (spliced (backTo pos (starEach (e :: es) env))) P := A3J (E.run _ H) (E.star _)
theorem A0A {es : List Expr} {P : List Value → A0e → Led → Prop} (he : starEach (e :: es) env = (false, eval e env) :: starEach es env) (H : Run Γ vs led (eval e env) (C0r Γ env pos P es)) : Run Γ vs led (spliced (backTo pos (starEach (e :: es) env))) P := A3J H he
theorem A0d {P : List Value → A0e → Led → Prop} (q : P [] vs led) : Run Γ vs led (spliced (backTo pos (starEach [] env))) P := A6D q
theorem B1v (El : Ev Γ vs led env l a) (Er : Ev Γ vs led env r b) (q : Run Γ vs led (binaryOp op a b) Q) : Run Γ vs led (eval (.BinOp l op r pos) env) Q := A7h (El.run _ (Er.run _ q))
theorem B5y (El : Ev Γ vs led env l a) (H : Run Γ vs led (eval r env) (B8p Γ Q op a)) : Run Γ vs led (eval (.BinOp l op r pos) env) Q := A7h (El.run _ H)
theorem A9Q (H : Run Γ vs led (eval l env) (KBin Γ env Q op r)) : Run Γ vs led (eval (.BinOp l op r pos) env) Q := A7h H
theorem rUn {u : UnaryOp} (H : Run Γ vs led (eval e env) (KUn Γ Q u)) : Run Γ vs led (eval (.UnaryOp u e pos) env) Q := A7X H
variable {c : CmpOp}
theorem A3O (El : Ev Γ vs led env l a) (Er : Ev Γ vs led env r b) (hm : behindInMarks c r = false) (q : Run Γ vs led (compareOp c a b) Q) : Run Γ vs led (eval (.Compare l [c] [r] pos) env) Q := A7Y (El.run _ (Er.run _ q)) hm
theorem B3L (hm : behindInMarks c r = false) (H : Run Γ vs led (eval l env) (KCmp Γ env Q c r)) : Run Γ vs led (eval (.Compare l [c] [r] pos) env) Q := A7Y H hm
theorem B9g (El : Ev Γ vs led env l a) (Er : Ev Γ vs led env r b) (q : Run Γ vs led (subscriptTail l r a b) Q) : Run Γ vs led (eval (.Subscript l r pos) env) Q := A3f (El.run _ (Er.run _ q))
theorem B1u (El : Ev Γ vs led env l a) (H : Run Γ vs led (eval r env) (B8m Γ Q l r a)) : Run Γ vs led (eval (.Subscript l r pos) env) Q := A3f (El.run _ H)
theorem rSub (H : Run Γ vs led (eval l env) (KSub Γ env Q l r)) : Run Γ vs led (eval (.Subscript l r pos) env) Q := A3f H
theorem A7m {es : List Expr} {as : List Value} {n : Nat} (A : Evs Γ vs led env es as) (q : Run Γ vs led (newTuple as) Q) : Run Γ vs led (eval (.Tuple es n pos) env) Q := B1g (A.spl q)
theorem A6s {es : List Expr} {n : Nat} (H : Run Γ vs led (spliced (backTo pos (starEach es env))) (KTup Γ Q)) : Run Γ vs led (eval (.Tuple es n pos) env) Q := B1g H
theorem A3r {es : List Expr} {as : List Value} (A : Evs Γ vs led env es as) (q : Run Γ vs led (newList as) Q) : Run Γ vs led (eval (.List es pos) env) Q := B3z (A.spl q)
theorem A8D {es : List Expr} (H : Run Γ vs led (spliced (backTo pos (starEach es env))) (KLis Γ Q)) : Run Γ vs led (eval (.List es pos) env) Q := B3z H
end
section
variable {QB : Bool → A0e → Led → Prop} {l r : Expr} {c : CmpOp} {a b : Value} {w : Bool} {i : Int} {k : Nat} {whole : Sem Value}
noncomputable def Cm (Γ : Cx) (vs : A0e) (led : Led) (c : CmpOp) (a b : Value) (w : Bool) : Prop := ∀ Q : VP, Q (.bool w) vs led → Run Γ vs led (compareOp c a b) Q
structure CmI (Γ : Cx) (vs : A0e) (led : Led) (c : CmpOp) (a : Value) (i : Int) (w : Bool) : Prop where
 ap : ∀ t, Cm Γ vs led c a (.int i t) w
theorem A1K (El : Ev Γ vs led env l a) (Er : Ev Γ vs led env r b) (hm : behindInMarks c r = false) (C : Cm Γ vs led c a b w) (q : QB w vs led) : Run Γ vs led (PySem.isTrue (.Compare l [c] [r] pos) env whole) QB := B2i (El.run _ (Er.run _ (C _ (A0c q)))) hm
theorem A4I (El : Ev Γ vs led env l a) (hm : behindInMarks c r = false) (H : Run Γ vs led (eval r env) (B8o Γ (KTr Γ QB) c a)) : Run Γ vs led (PySem.isTrue (.Compare l [c] [r] pos) env whole) QB := B2i (El.run _ H) hm
theorem B5d (hm : behindInMarks c r = false) (H : Run Γ vs led (eval l env) (KCmp Γ env (KTr Γ QB) c r)) : Run Γ vs led (PySem.isTrue (.Compare l [c] [r] pos) env whole) QB := B2i H hm
theorem kCm (C : Cm Γ vs led c a b w) (q : QB w vs led) : Run Γ vs led (compareOp c a b) (KTr Γ QB) := C _ (A0c q)
theorem rCm {Q : VP} (C : Cm Γ vs led c a b w) (q : Q (.bool w) vs led) : Run Γ vs led (compareOp c a b) Q := C _ q
theorem A5n (H : Run Γ vs led (PySem.isTrue e env (eval e env)) (KNot QB)) : Run Γ vs led (PySem.isTrue (.UnaryOp .Not e pos) env whole) QB := C0m H
theorem A3K {es : List Expr} (H : Run Γ vs led (PySem.isTrue e env (eval e env)) (KAnd Γ env pos QB es whole)) : Run Γ vs led (PySem.isTrue (.BoolOp .And (e :: es) pos) env whole) QB := C0n H
theorem tOr {es : List Expr} (H : Run Γ vs led (PySem.isTrue e env (eval e env)) (KOr Γ env pos QB es whole)) : Run Γ vs led (PySem.isTrue (.BoolOp .Or (e :: es) pos) env whole) QB := T_or H
theorem A2t (he : PySem.isTrue e env whole = (do let v ← whole; standAt e.pos; holding [v] (truthy v))) (H : Run Γ vs led whole (KTr Γ QB)) : Run Γ vs led (PySem.isTrue e env whole) QB := B0W H he
theorem A1F (E : Ev Γ vs led env e v) (he : PySem.isTrue e env (eval e env) = (do let v ← eval e env; standAt e.pos; holding [v] (truthy v))) (q : Run Γ vs led (truthy v) QB) : Run Γ vs led (PySem.isTrue e env (eval e env)) QB := B0W (E.run _ q) he
section
variable {m n : Int} {t u : Tok} {s z : Array UInt8}
theorem Cm.lt : Cm Γ vs led .Lt (.int m t) (.int n u) (decide (m < n)) := fun _ q => c_lt q
theorem Cm.gt : Cm Γ vs led .Gt (.int m t) (.int n u) (decide (n < m)) := fun _ q => c_gt q
theorem Cm.le : Cm Γ vs led .LtE (.int m t) (.int n u) (decide (m ≤ n)) := fun _ q => c_le q
theorem Cm.ge : Cm Γ vs led .GtE (.int m t) (.int n u) (decide (n ≤ m)) := fun _ q => c_ge q
theorem Cm.eq : Cm Γ vs led .Eq (.int m t) (.int n u) (decide (m = n)) := fun _ q => c_eq q
theorem Cm.ne : Cm Γ vs led .NotEq (.int m t) (.int n u) (decide (m ≠ n)) := fun _ q => c_ne q
theorem CmI.lt : CmI Γ vs led .Lt (.int m t) n (decide (m < n)) := ⟨fun _ => Cm.lt⟩
theorem CmI.gt : CmI Γ vs led .Gt (.int m t) n (decide (n < m)) := ⟨fun _ => Cm.gt⟩
theorem CmI.le : CmI Γ vs led .LtE (.int m t) n (decide (m ≤ n)) := ⟨fun _ => Cm.le⟩
theorem CmI.ge : CmI Γ vs led .GtE (.int m t) n (decide (n ≤ m)) := ⟨fun _ => Cm.ge⟩
theorem CmI.eq : CmI Γ vs led .Eq (.int m t) n (decide (m = n)) := ⟨fun _ => Cm.eq⟩
theorem CmI.ne : CmI Γ vs led .NotEq (.int m t) n (decide (m ≠ n)) := ⟨fun _ => Cm.ne⟩
theorem Cm.eqB : Cm Γ vs led .Eq (.bytes s t) (.bytes z u) (decide (s = z)) := fun _ q => B7E q
theorem Cm.isNN : Cm Γ vs led .Is .none .none true := fun _ q => A8j q
theorem Cm.isN (hv : v ≠ .none) : Cm Γ vs led .Is v .none false := fun _ q => B0s hv q
theorem Cm.noNN : Cm Γ vs led .IsNot .none .none false := fun _ q => A6v q
theorem Cm.noN (hv : v ≠ .none) : Cm Γ vs led .IsNot v .none true := fun _ q => A8S hv q
end
end
structure Ar (Γ : Cx) (vs : A0e) (led : Led) (env : Env) (e : Expr) (n : Int) : Prop where
 run : ∀ Q : VP, (∀ t, Q (.int n t) vs led) → Run Γ vs led (eval e env) Q
 star : ∀ r, starEach (e :: r) env = (false, eval e env) :: starEach r env
structure Bo (Γ : Cx) (vs : A0e) (led : Led) (op : Operator) (a b c : Int) : Prop where
 run : ∀ t u (Q : VP), (∀ t', Q (.int c t') vs led) → Run Γ vs led (binaryOp op (.int a t) (.int b u)) Q
structure Ln (Γ : Cx) (vs : A0e) (led : Led) (v : Value) (n : Int) : Prop where
 run : ∀ Q : VP, (∀ t, Q (.int n t) vs led) → Run Γ vs led (call (.builtin "len") [v]) Q
structure It (Γ : Cx) (vs : A0e) (led : Led) (value slice : Expr) (o : Value) (k : Int) (x : Value) : Prop where
 run : ∀ u (Q : VP), Q x vs led → Run Γ vs led (subscriptTail value slice o (.int k u)) Q
structure Ci (Γ : Cx) (vs : A0e) (led : Led) (c : CmpOp) (a b : Int) (w : Bool) : Prop where
 ap : ∀ t u, Cm Γ vs led c (.int a t) (.int b u) w
section
variable {Γ : Cx} {vs : A0e} {led : Led} {env : Env} {e l r slice value : Expr} {op : Operator} {a b c i : Int} {k : Int} {n : Nat} {p pos : Pos} {t : Tok} {Q : VP} {v : Value}
theorem Bo.add : Bo Γ vs led .Add a b (a + b) := ⟨fun _ _ _ q => A8v q⟩
theorem Bo.sub : Bo Γ vs led .Sub a b (a - b) := ⟨fun _ _ _ q => C0g q⟩
theorem Bo.mod (h : b ≠ 0) : Bo Γ vs led .Mod a b (a.fmod b) := ⟨fun _ _ _ q => B8e h q⟩
theorem Bo.div (h : b ≠ 0) (h2 : b.natAbs < 1073741824) : Bo Γ vs led .FloorDiv a b (a.fdiv b) := ⟨fun _ _ _ q => B8f h h2 q⟩
theorem Bo.and : Bo Γ vs led .BitAnd a b (Builtin.bitAnd a b) := ⟨fun _ _ _ q => C0l q⟩
theorem Bo.or : Bo Γ vs led .BitOr a b (Builtin.bitOr a b) := ⟨fun _ _ _ q => b_or q⟩
theorem Bo.shr (h : 0 ≤ b) : Bo Γ vs led .RShift a b (a.fdiv (2 ^ b.toNat)) := ⟨fun _ _ _ q => C0h h q⟩
theorem Bo.shl (h : 0 ≤ b) (h2 : b ≤ 1000000) (h3 : a.natAbs < 2 ^ 64) : Bo Γ vs led .LShift a b (a * 2 ^ b.toNat) := ⟨fun _ _ _ q => C0i h h2 h3 q⟩
theorem Bo.pow (h : 0 ≤ b) (h2 : b ≤ 1000000) (h3 : a.natAbs < 2 ^ 64) : Bo Γ vs led .Pow a b (a ^ b.toNat) := ⟨fun _ _ _ q => C0j h h2 h3 q⟩
theorem Ar.con : Ar Γ vs led env (.Constant (.int i) n p) i := ⟨fun _ q => C0o q, fun _ => rfl⟩
theorem Ar.val (E : Ev Γ vs led env e (.int a t)) : Ar Γ vs led env e a := ⟨fun _ q => E.run _ (q t), E.star⟩
theorem Ar.bin (A : Ar Γ vs led env l a) (B : Ar Γ vs led env r b) (o : Bo Γ vs led op a b c) : Ar Γ vs led env (.BinOp l op r pos) c := ⟨fun Q q => A7h (A.run _ fun t => B.run _ fun u => o.run t u Q q), fun _ => rfl⟩
theorem Ar.neg (A : Ar Γ vs led env e a) : Ar Γ vs led env (.UnaryOp .USub e pos) (-a) := ⟨fun Q q => A7X (A.run _ fun t => B8w q), fun _ => rfl⟩
theorem Ln.list {d : Addr} {xs : List Value} (hm : (d, LObj.list xs) ∈ led) (hz : xs.length ≤ 1000000) : Ln Γ vs led (.ref d) xs.length := ⟨fun _ q => B9m hm hz q⟩
theorem Ln.byt {s : Array UInt8} (hz : s.size ≤ 1099511627776) : Ln Γ vs led (.bytes s t) s.size := ⟨fun _ q => A9q hz q⟩
theorem Ar.len {x : Str} (E : Ev Γ vs led Γ.env (.Name x p) (.builtin "len")) (A : Ev Γ vs led Γ.env e v) (L : Ln Γ vs led v a) : Ar Γ vs led Γ.env (.Call (.Name x p) [e] [] pos) a := ⟨fun Q q => rC E .bi (.cons A .nil) (L.run Q q), fun _ => rfl⟩
theorem Ar.byt {s : List UInt8} {x : UInt8} (E : Ev Γ vs led env value (.bytes s.toArray t)) (A : Ar Γ vs led env slice k) (hx : s[k.toNat]? = some x) (hz : s.length ≤ 1000000) (h0 : 0 ≤ k)
  (hs : ∀ u, subscripted slice false (.bytes s.toArray t) (.int k u) = operate [.bytes s.toArray t, .int k u] (getItem (.bytes s.toArray t) (.int k u))) (ht : ∀ r, letTemporaryGo value (.bytes s.toArray t) r = pure ()) :
  Ar Γ vs led env (.Subscript value slice pos) x.toNat := ⟨fun Q q => A3f (E.run _ (A.run _ fun u => B9f hx hz h0 q (hs u) ht)), fun _ => rfl⟩
theorem It.list {d : Addr} {xs : List Value} (hm : (d, LObj.list xs) ∈ led) (h0 : 0 ≤ k) (h1 : k < 2 ^ 63) (hx : xs[k.toNat]? = some v) (hs : ∀ u, subscripted slice false (.ref d) (.int k u) = operate [.ref d, .int k u] (getItem (.ref d) (.int k u))) : It Γ vs led value slice (.ref d) k v := ⟨fun u Q q => B2O hm h0 h1 hx q (hs u)⟩
theorem It.neg {d : Addr} {xs : List Value} (hm : (d, LObj.list xs) ∈ led) (h0 : k < 0) (h1 : -(xs.length : Int) ≤ k) (hz : xs.length ≤ 1000000) (hx : xs[(k + xs.length).toNat]? = some v) (hs : ∀ u, subscripted slice false (.ref d) (.int k u) = operate [.ref d, .int k u] (getItem (.ref d) (.int k u))) :
  It Γ vs led value slice (.ref d) k v := ⟨fun u Q q => B4d hm h0 h1 hz hx q (hs u)⟩
theorem It.tup {d : Addr} {xs : List Value} (hm : (d, LObj.tup xs) ∈ led) (h0 : 0 ≤ k) (h1 : k < 2 ^ 63) (hx : xs[k.toNat]? = some v) (hs : ∀ u, subscripted slice false (.ref d) (.int k u) = operate [.ref d, .int k u] (getItem (.ref d) (.int k u))) : It Γ vs led value slice (.ref d) k v := ⟨fun u Q q => B9q hm h0 h1 hx q (hs u)⟩
theorem Ei {o : Value} (E : Ev Γ vs led env value o) (A : Ar Γ vs led env slice k) (I : It Γ vs led value slice o k v) : Ev Γ vs led env (.Subscript value slice pos) v := ⟨fun Q q => A3f (E.run _ (A.run _ fun u => I.run u Q q)), fun _ => rfl⟩
theorem rAr (A : Ar Γ vs led env e a) (q : ∀ t, Q (.int a t) vs led) : Run Γ vs led (eval e env) Q := A.run Q q
theorem A0k {es : List Expr} {P : List Value → A0e → Led → Prop} (A : Ar Γ vs led env e a) (H : ∀ t, Run Γ vs led (spliced (backTo pos (starEach es env))) (B5b P (.int a t))) : Run Γ vs led (spliced (backTo pos (starEach (e :: es) env))) P := A3J (A.run _ H) (A.star _)
theorem Ci.lt : Ci Γ vs led .Lt a b (decide (a < b)) := ⟨fun _ _ => Cm.lt⟩
theorem Ci.gt : Ci Γ vs led .Gt a b (decide (b < a)) := ⟨fun _ _ => Cm.gt⟩
theorem Ci.le : Ci Γ vs led .LtE a b (decide (a ≤ b)) := ⟨fun _ _ => Cm.le⟩
theorem Ci.ge : Ci Γ vs led .GtE a b (decide (b ≤ a)) := ⟨fun _ _ => Cm.ge⟩
theorem Ci.eq : Ci Γ vs led .Eq a b (decide (a = b)) := ⟨fun _ _ => Cm.eq⟩
theorem Ci.ne : Ci Γ vs led .NotEq a b (decide (a ≠ b)) := ⟨fun _ _ => Cm.ne⟩
theorem A0g {cm : CmpOp} {QB : Bool → A0e → Led → Prop} {w : Bool} {whole : Sem Value} (A : Ar Γ vs led env l a) (B : Ar Γ vs led env r b) (hm : behindInMarks cm r = false) (C : Ci Γ vs led cm a b w) (q : QB w vs led) : Run Γ vs led (PySem.isTrue (.Compare l [cm] [r] pos) env whole) QB :=
 B2i (A.run _ fun t => B.run _ fun u => C.ap t u _ (A0c q)) hm
end
section
variable {k : List (List Stmt)} {rest : List Stmt} {QF : FP} {value o : Expr} {n : Str}
theorem A4Y (E : Ev Γ vs led Γ.env value v) (hs : swapsWith value (some (.Name x p)) pos.line Γ.env = pure false) (U : VUpd x v vs vs') (H : Do Γ vs' led (rest :: k) QF) : Do Γ vs led ((.Assign [.Name x p] value pos :: rest) :: k) QF := A9a (E.run _ ⟨_, U, H⟩) hs
theorem xAs (hs : swapsWith value (some (.Name x p)) pos.line Γ.env = pure false) (H : Run Γ vs led (eval value Γ.env) (KAs Γ QF rest k x)) : Do Γ vs led ((.Assign [.Name x p] value pos :: rest) :: k) QF := A9a H hs
theorem kAs (U : VUpd x v vs vs') (H : Do Γ vs' led (rest :: k) QF) : KAs Γ QF rest k x v vs led := ⟨_, U, H⟩
section
variable {a C d i : Addr} {fs fs' : List (Str × Value)} {FN rr : List Str}
theorem A4A (E : Ev Γ vs led Γ.env o (.ref a)) (hx : (a, LObj.inst C d) ∈ led) (U : Upd1 d (.flds fs) (.flds fs') led led') (V : FUpd n v fs fs') (f : Fld C n) (tk : A5x C) (H : Do Γ vs led' (rest :: k) QF) : B8u Γ QF rest k o n v vs led := E.run _ (A7V hx V U f tk H)
theorem A3i (E : Ev Γ vs led Γ.env o (.ref a)) (hx : (a, LObj.inst C d) ∈ led) (hm : (d, LObj.flds fs) ∈ led) (K : Cls C FN i) (S : Snoc fs (n, v) fs') (e : FN = fs.map (·.1) ++ n :: rr) (U : Upd1 d (.flds fs) (.flds fs') led led') (f : Fld C n) (H : Do Γ vs led' (rest :: k) QF) :
  B8u Γ QF rest k o n v vs led := E.run _ (B1c K hx hm e (S.eq ▸ U) f H)
theorem kSt (hx : (a, LObj.inst C d) ∈ led) (U : Upd1 d (.flds fs) (.flds fs') led led') (V : FUpd n v fs fs') (f : Fld C n) (tk : A5x C) (H : Do Γ vs led' (rest :: k) QF) : KSt Γ QF rest k (.ref a) n v vs led := A7V hx V U f tk H
theorem xAt {op : Operator} {old : Value} (E : Ev Γ vs led Γ.env o (.ref a)) (hx : (a, LObj.inst C d) ∈ led) (hd : (d, LObj.flds fs) ∈ led) (hf : (n, old) ∈ fs) (f : Fld C n) (hv : handedIn old = true) (H : Run Γ vs led (eval value Γ.env) (KIn Γ (KSt Γ QF rest k (.ref a) n) op old)) :
  Do Γ vs led ((.AugAssign (.Attribute o n p) op value pos :: rest) :: k) QF := B0V (E.run _ (A6b hx hd hf f hv H))
theorem A1x (Ev : Ev Γ vs led Γ.env value v) (hs : swapsWith value (some (.Attribute o n p)) pos.line Γ.env = pure false) (q : B8u Γ QF rest k o n v vs led) : Do Γ vs led ((.Assign [.Attribute o n p] value pos :: rest) :: k) QF := A5s (Ev.run _ q) hs
theorem A4n (hs : swapsWith value (some (.Attribute o n p)) pos.line Γ.env = pure false) (H : Run Γ vs led (eval value Γ.env) (B8u Γ QF rest k o n)) : Do Γ vs led ((.Assign [.Attribute o n p] value pos :: rest) :: k) QF := A5s H hs
end
theorem xSi {i : Expr} (hs : swapsWith value (some (.Subscript o i p)) pos.line Γ.env = pure false) (H : Run Γ vs led (eval value Γ.env) (KSi Γ QF rest k o i)) : Do Γ vs led ((.Assign [.Subscript o i p] value pos :: rest) :: k) QF := A8x H hs
theorem B1m {elts : List Expr} {m : Nat} {tp : Pos} (hs : swapsWithSole [.Tuple elts m tp] value pos.line Γ.env = pure false) (hw : swappedStores [.Tuple elts m tp] value Γ.env = pure none)
  (H : Run Γ vs led (eval value Γ.env) (KTp Γ QF rest k elts m tp)) : Do Γ vs led ((.Assign [.Tuple elts m tp] value pos :: rest) :: k) QF := A8w H hs hw
theorem B5e {i : Expr} {op : Operator} (ha : ∀ ov iv new, augStore i ov iv new = (do holding [new, ov, iv] (setItem ov iv new); release [new, ov, iv] []; pure .next)) (H : Run Γ vs led (eval o Γ.env) fun ov vs led => Run Γ vs led (eval i Γ.env) fun iv vs led => Run Γ vs led (getItem ov iv) fun old vs led => Run Γ vs led (eval value Γ.env) fun v vs led => Run Γ vs led (inplaceOp op old v) fun r vs led =>
  Run Γ vs led (setItem ov iv r) fun _ vs led => Do Γ vs led (rest :: k) QF) : Do Γ vs led ((.AugAssign (.Subscript o i p) op value pos :: rest) :: k) QF := B2h H ha
theorem A3h (E : Ev Γ vs led Γ.env value v) (q : QF (.ret v) vs led) : Do Γ vs led ((.Return (some value) pos :: rest) :: k) QF := A8Z (E.run _ q)
theorem A1U (H : Run Γ vs led (eval value Γ.env) (KRet QF)) : Do Γ vs led ((.Return (some value) pos :: rest) :: k) QF := A8Z H
theorem A1A (hs : swapsWith value none pos.line Γ.env = pure false) (H : Run Γ vs led (eval value Γ.env) (KExp Γ QF rest k)) : Do Γ vs led ((.Expr value pos :: rest) :: k) QF := B4T H hs
theorem A1B (H : Do Γ vs led (rest :: k) QF) : KExp Γ QF rest k .none vs led := ⟨trivial, H⟩
theorem xIf {body orelse : List Stmt} (H : Run Γ vs led (PySem.isTrue e Γ.env (eval e Γ.env)) (KIf Γ QF rest k body orelse)) : Do Γ vs led ((.If e body orelse pos :: rest) :: k) QF := X_If H
theorem A2s {body orelse : List Stmt} {b : Bool} (h : b = true) (H : Do Γ vs led (body :: rest :: k) QF) : KIf Γ QF rest k body orelse b vs led := A3N h H
theorem A0R {body orelse : List Stmt} {b : Bool} (h : b = false) (H : Do Γ vs led (orelse :: rest :: k) QF) : KIf Γ QF rest k body orelse b vs led := A1D h H
end
end
section
variable {Γ : Cx} {vs vs0 : A0e} {led : Led} {Q : VP} {k n m : Nat}
theorem up0 (h : k ≤ n) (e : Nat.ble n m = true) : k ≤ m := Nat.le_trans h (Nat.le_of_ble_eq_true e)
theorem up1 (h : k ≤ n) (e : Nat.ble (n + 1) m = true) : k + 1 ≤ m := Nat.le_trans (Nat.add_le_add_right h 1) (Nat.le_of_ble_eq_true e)
@[reducible] noncomputable def C0q (Q : VP) (vs : A0e) : FP := fun fl _ led' => ∃ led'', Sub led'' led' ∧ Q (A2b fl) vs led''
@[reducible] noncomputable def B5a (Q : VP) (x : Addr) (vs : A0e) : FP := fun fl _ led' => A2b fl = .none ∧ ∃ led'', Sub led'' led' ∧ Q (.ref x) vs led''
theorem A2a {fl : Flow} {vs' : A0e} {led' led'' : Led} (S : Sub led'' led') (q : Q (A2b fl) vs led'') : C0q Q vs fl vs' led' := ⟨led'', S, q⟩
theorem A6N {x : Addr} {vs' : A0e} {led' led'' : Led} (S : Sub led'' led') (q : Q (.ref x) vs led'') : B5a Q x vs .next vs' led' := ⟨rfl, led'', S, q⟩
noncomputable def bOf (vs : A0e) : List (Str × Value) := vs.filterMap fun p => p.2.map fun v => (p.1, v)
noncomputable def mOf (vs : A0e) : List Str := (vs.filter (·.2.isNone)).map (·.1)
theorem eF {f : Addr} {o : Obj} {name qual : Str} {params : Arguments} {body : List Stmt} {scope : Scope} {dV pm cdv : Value} {args : List Value} (h : ∀ P, (kf P).lookup f = some o) (hc : ∀ P, codeIn (kf P) cdv qual = true)
  (e : o = { cls := .type "function", data := .func (fnOf name qual params body scope dV .none .none pm none cdv .none) }) (hd : Low Γ k) (hk : k ≤ n) (vs0 : A0e) (gl : List Str)
  (hbody : ∀ Γ', Γ.Under Γ.A scope gl Γ' → Low Γ' (k + 1) → Γ'.w = Γ.w → Do Γ' vs0 led [body] (C0q Q vs))
  (hz : Nat.ble n 600 = true := by exact rfl) (hb : ∀ s : Shared, (kf Γ.w.params).In s.heap → BindsTo s (fnOf name qual params body scope dV .none .none pm none cdv .none) ⟨args, []⟩ (bOf vs0) := by exact fun s _ => BindsTo.of_eq (by kernel_rfl))
  (hk' : chk scope (vs0.map (·.1)) gl = true := by kernel_rfl) (hv : A0U (bOf vs0) (mOf vs0) = vs0 := by kernel_rfl) : Run Γ vs led (call (.ref f) args) Q :=
 Run.sub' (B8j (A8m h hc e) (hd.room (up0 hk hz)) hb (mOf vs0) gl (by rw [hv]; exact hk') fun Γ' U => by rw [hv]; exact hbody Γ' U (U.low hd) U.w)
theorem eM {C i : Addr} {o : Obj} {FN : List Str} {name qual : Str} {params : Arguments} {body : List Stmt} {scope : Scope} {dV pm cdv : Value} {args : List Value} (K : Cls C FN i) (h : ∀ P, (kf P).lookup i = some o) (hc : ∀ P, codeIn (kf P) cdv qual = true)
  (e : o = { cls := .type "function", data := .func (fnOf name qual params body scope dV .none .none pm none cdv .none) }) (hd : Low Γ k) (hk : k ≤ n) (vs0 : Addr → A0e) (gl : List Str)
  (hbody : ∀ x d Γ', Γ.Under (Γ.A.under (.builtin "type.__call__" ⟨.ref C :: args, []⟩)) scope gl Γ' → Low Γ' (k + 2) → Γ'.w = Γ.w → Do Γ' (vs0 x) ((x, .inst C d) :: (d, .flds []) :: led) [body] (B5a Q x vs))
  (hz : Nat.ble n 600 = true := by exact rfl) (hb : ∀ x, ∀ s : Shared, (kf Γ.w.params).In s.heap → BindsTo s (fnOf name qual params body scope dV .none .none pm none cdv .none) ⟨.ref x :: args, []⟩ (bOf (vs0 x)) := by exact fun x s _ => BindsTo.of_eq (by kernel_rfl))
  (hk' : ∀ x, chk scope ((vs0 x).map (·.1)) gl = true := by exact fun x => by kernel_rfl) (hv : ∀ x, A0U (bOf (vs0 x)) (mOf (vs0 0)) = vs0 x := by exact fun x => by kernel_rfl) : Run Γ vs led (call (.ref C) args) Q :=
 Run.sub' (B4V K (A8m h hc e) (hd.room1 (up0 hk hz)) hb (mOf (vs0 0)) gl (fun x => by rw [hv]; exact hk' x) fun x d Γ' U => by rw [hv]; exact hbody x d Γ' U (U.lowM' hd) U.w)
end
end Mine
set_option hygiene false
set_option compiler.extract_closed false
local macro_rules | `(tactic| fail "c1") => `(tactic| (simp only [byteArr_size, Array.size_push, Array.size_append, List.size_toArray, List.length_append, List.length_cons, List.length_nil]; omega))
local macro_rules | `(tactic| fail "c3") => `(tactic| (simp only [decide_eq_true_eq, decide_eq_false_iff_not, Bool.not_eq_true', Bool.not_eq_false', ne_eq, Classical.not_not, List.size_toArray, List.length_cons, List.length_nil]; first | assumption | decide | omega))
local macro_rules | `(tactic| fail "k") => `(tactic| with_reducible change C0q _ _ _ _ _)
local macro_rules | `(tactic| fail "kM") => `(tactic| with_reducible change B5a _ _ _ _ _ _)
set_option hygiene true
namespace Mine
section
variable {Γ : Cx} {vs : A0e} {led R : Led} {Q : Value → A0e → Led → Prop} {k : Nat}
theorem A7d {s sd p : Addr} {b : Array UInt8} {n : Int} {t : Tok} (hd : Low Γ k) (hk : k ≤ 590) (hn : Γ.nd = true) (P : Pick [(p, .ba b)] led R) (hs : (s, .inst 372 sd) ∈ R) (hf : (sd, .flds [("parts", .ref p)]) ∈ R) (h0 : 0 ≤ n) (h1 : n < 128) (hz : b.size ≤ 100000)
  (q : Q .none vs ((p, .ba (b.push n.toNat.toUInt8)) :: R)) : Run Γ vs led (call (.ref 320) [.ref s, .int n t]) Q := by
 refine Run.pick1 P ?_
 refine eF B6f B7r rfl hd hk [("self", some (.ref s)), ("n", some (.int n t))] ["put_varint"] fun Γ' U hdp hwp => ?_
 have hnp := U.nd.trans hn
 refine xIf ?_
 refine A3K ?_
 refine A0g (Ar.val (En M1)) Ar.con rfl Ci.ge ?_
 refine A3N (by fail "c3") ?_
 refine A3K ?_
 refine A0g (Ar.val (En M1)) Ar.con rfl Ci.lt ?_
 refine A3N (by fail "c3") ?_
 refine A2I ?_
 refine A2s rfl ?_
 refine A1A rfl ?_
 refine rM (Ea M0 (N1 hs) (N1 hf) M0 A1r rfl) (Gm.bap M0) (Evs.cons (En M1) Evs.nil) rfl ?_
 refine A4V hnp hdp h0 (by omega) (up0 hz rfl) U0 ?_
 refine A1B ?_
 refine A0a ?_
 refine A0a ?_
 refine A0n ?_
 fail "k"
 exact A2a (by exact Sub.refl) (q)
theorem B7U {s sd p : Addr} {b : Array UInt8} {n : Int} {t : Tok} (hd : Low Γ k) (hk : k ≤ 590) (hn : Γ.nd = true) (P : Pick [(p, .ba b)] led R) (hs : (s, .inst 372 sd) ∈ R) (hf : (sd, .flds [("parts", .ref p)]) ∈ R) (h0 : 0 ≤ n) (h1 : n < 256) (hz : b.size ≤ 100000)
  (q : Q .none vs ((p, .ba (b.push n.toNat.toUInt8)) :: R)) : Run Γ vs led (call (.ref 348) [.ref s, .int n t]) Q := by
 refine Run.pick1 P ?_
 refine eF B6d B7p rfl hd hk [("self", some (.ref s)), ("n", some (.int n t))] ["BadOption"] fun Γ' U hdp hwp => ?_
 have hnp := U.nd.trans hn
 refine xIf ?_
 refine tOr ?_
 refine A0g (Ar.val (En M1)) Ar.con rfl Ci.lt ?_
 refine A1D (by fail "c3") ?_
 refine tOr ?_
 refine A0g (Ar.val (En M1)) Ar.con rfl Ci.gt ?_
 refine A1D (by fail "c3") ?_
 refine A0W ?_
 refine A0R rfl ?_
 refine A0a ?_
 refine A1A rfl ?_
 refine rM (Ea M0 (N1 hs) (N1 hf) M0 A1r rfl) (Gm.bap M0) (Evs.cons (En M1) Evs.nil) rfl ?_
 refine A4V hnp hdp h0 h1 (up0 hz rfl) U0 ?_
 refine A1B ?_
 refine A0a ?_
 refine A0n ?_
 fail "k"
 exact A2a (by exact Sub.refl) (q)
theorem B3s {s sd p : Addr} {b : Array UInt8} (hd : Low Γ k) (hk : k ≤ 590) (hn : Γ.nd = true) (P : Pick [(p, .ba b)] led R) (hs : (s, .inst 372 sd) ∈ R) (hf : (sd, .flds [("parts", .ref p)]) ∈ R) (hz : b.size ≤ 100000)
  (q : Q .none vs ((p, .ba (b.push 1)) :: R)) : Run Γ vs led (call (.ref 355) [.ref s, .bool true]) Q := by
 refine Run.pick1 P ?_
 refine eF B2H B3h rfl hd hk [("self", some (.ref s)), ("b", some (.bool true))] [] fun Γ' U hdp hwp => ?_
 have hnp := U.nd.trans hn
 refine xIf ?_
 refine A1F (En M1) rfl ?_
 refine A0c ?_
 refine A2s rfl ?_
 refine A1A rfl ?_
 refine rM' (Ea M0 (N1 hs) (N1 hf) M0 A1r rfl) (Gm.bap M0) rfl rfl rfl ?_
 refine A0k Ar.con fun _ => ?_
 refine A0d ?_
 refine A4V hnp hdp (by decide) (by decide) (up0 hz rfl) U0 ?_
 refine A1B ?_
 refine A0a ?_
 refine A0a ?_
 refine A0n ?_
 fail "k"
 exact A2a (by exact Sub.cons Ex.head Sub.refl) (q)
theorem B7T {s sd p : Addr} {b : Array UInt8} (hd : Low Γ k) (hk : k ≤ 590) (hn : Γ.nd = true) (P : Pick [(p, .ba b)] led R) (hs : (s, .inst 372 sd) ∈ R) (hf : (sd, .flds [("parts", .ref p)]) ∈ R) (hz : b.size ≤ 100000)
  (q : Q .none vs ((p, .ba (b.push 0)) :: R)) : Run Γ vs led (call (.ref 355) [.ref s, .bool false]) Q := by
 refine Run.pick1 P ?_
 refine eF B2H B3h rfl hd hk [("self", some (.ref s)), ("b", some (.bool false))] [] fun Γ' U hdp hwp => ?_
 have hnp := U.nd.trans hn
 refine xIf ?_
 refine A1F (En M1) rfl ?_
 refine A0c ?_
 refine A0R rfl ?_
 refine A1A rfl ?_
 refine rM' (Ea M0 (N1 hs) (N1 hf) M0 A1r rfl) (Gm.bap M0) rfl rfl rfl ?_
 refine A0k Ar.con fun _ => ?_
 refine A0d ?_
 refine A4V hnp hdp (by decide) (by decide) (up0 hz rfl) U0 ?_
 refine A1B ?_
 refine A0a ?_
 refine A0a ?_
 refine A0n ?_
 fail "k"
 exact A2a (by exact Sub.cons Ex.head Sub.refl) (q)
theorem A9E {s sd p : Addr} {b : Array UInt8} (hd : Low Γ k) (hk : k ≤ 590) (hs : (s, .inst 372 sd) ∈ led) (hf : (sd, .flds [("parts", .ref p)]) ∈ led) (hp : (p, .ba b) ∈ led) (hz : b.size ≤ 100000)
  (q : ∀ t, Q (.bytes b t) vs led) : Run Γ vs led (call (.ref 369) [.ref s]) Q := by
 refine eF B6c B7o rfl hd hk [("self", some (.ref s))] ["bytes"] fun Γ' U hdp hwp => ?_
 refine A1U ?_
 refine rC (Eb A2f (Cx.Under.gl U) M0) Callee.ty (Evs.cons (Ea M0 hs hf M0 A1r rfl) Evs.nil) ?_
 refine B2l hp (up0 hz rfl) fun _ => ?_
 fail "k"
 exact A2a (by exact Sub.refl) (q _)
theorem A9D (hd : Low Γ k) (hk : k ≤ 590) (hn : Γ.nd = true) (q : ∀ s sd p, Q (.ref s) vs ((p, .ba #[]) :: (s, .inst 372 sd) :: (sd, .flds [("parts", .ref p)]) :: led)) : Run Γ vs led (call (.ref 372) []) Q := by
 refine eM A4a B6g B7s rfl hd hk (fun x => [("self", some (.ref x))]) ["bytearray"] fun x d Γ' U hdp hwp => ?_
 have hnp := U.nd.trans hn
 refine A4n rfl ?_
 refine rC (Eb A7G (Cx.Under.gl U) M0) Callee.ty Evs.nil ?_
 refine B4U hnp hdp fun _ => ?_
 refine A3i (En M0) M1 M2 A4a Snoc.nil rfl U2 A1r ?_
 refine A0a ?_
 refine A0n ?_
 fail "kM"
 exact A6N (by exact Sub.refl) (q _ _ _)
theorem C0d {n : Int} {t : Tok} (hd : Low Γ k) (hk : k ≤ 590) (h0 : 0 ≤ n) (h1 : n < 128) (q : ∀ t, Q (.bytes #[n.toNat.toUInt8] t) vs led) : Run Γ vs led (call (.ref 165) [.int n t]) Q := by
 refine eF B6p B7B rfl hd hk [("n", some (.int n t))] ["bytes", "write_groups", "MAX_32"] fun Γ' U hdp hwp => ?_
 refine xIf ?_
 refine A3K ?_
 refine A0g (Ar.val (En M0)) Ar.con rfl Ci.ge ?_
 refine A3N (by fail "c3") ?_
 refine A3K ?_
 refine A0g (Ar.val (En M0)) Ar.con rfl Ci.lt ?_
 refine A3N (by fail "c3") ?_
 refine A2I ?_
 refine A2s rfl ?_
 refine A1U ?_
 refine rC' (Eb A2f (Cx.Under.gl U) M0) Callee.ty rfl rfl ?_
 refine A0A rfl ?_
 refine A3r (Evs.cons (En M0) Evs.nil) ?_
 refine A0o (by fail "c3") fun _ => ?_
 refine A0d ?_
 refine A2z M0 (PyProof.Rows.IntsAre.cons _ _ PyProof.Rows.IntsAre.nil) (by (simp only [List.mem_cons, List.not_mem_nil, or_false, forall_eq_or_imp, forall_eq]; omega)) (by fail "c1") fun _ => ?_
 fail "k"
 exact A2a (by exact Sub.skip Sub.refl) (q _)
theorem A8r {s sd p : Addr} {b c : Array UInt8} {t : Tok} (hd : Low Γ k) (hk : k ≤ 580) (hn : Γ.nd = true) (P : Pick [(p, .ba b)] led R) (hs : (s, .inst 372 sd) ∈ R) (hf : (sd, .flds [("parts", .ref p)]) ∈ R) (hz : b.size ≤ 100000) (hc : c.size < 128)
  (q : Q .none vs ((p, .ba (b ++ #[c.size.toUInt8] ++ c)) :: R)) : Run Γ vs led (call (.ref 341) [.ref s, .bytes c t]) Q := by
 refine Run.pick1 P ?_
 refine eF B6e B7q rfl hd hk [("self", some (.ref s)), ("b", some (.bytes c t))] ["put_varint32", "len"] fun Γ' U hdp hwp => ?_
 have hnp := U.nd.trans hn
 refine A1A rfl ?_
 refine rM' (Ea M0 (N1 hs) (N1 hf) M0 A1r rfl) (Gm.bex M0) rfl rfl rfl ?_
 refine A0A rfl ?_
 refine rC' (Eg A5O (Cx.Under.gl U) M0) (Callee.fn B6C) rfl rfl ?_
 refine A0k (Ar.len (Eb A1n (Cx.Under.gl U) M1) (En M1) (Ln.byt (by omega))) fun _ => ?_
 refine A0d ?_
 refine C0d hdp (up1 hk rfl) (by omega) (by omega) fun _ => ?_
 refine A0d ?_
 refine A7P hnp hdp (by fail "c1") U0 ?_
 refine A1B ?_
 refine A1A rfl ?_
 refine rM (Ea M0 (N1 hs) (N1 hf) M0 A1r rfl) (Gm.bex M0) (Evs.cons (En M1) Evs.nil) rfl ?_
 refine A7P hnp hdp (by fail "c1") U0 ?_
 refine A1B ?_
 refine A0a ?_
 refine A0n ?_
 fail "k"
 exact A2a (by exact Sub.cons Ex.head Sub.refl) (q)
theorem B4z {n : Int} {t : Tok} (hd : Low Γ k) (hk : k ≤ 590) (h0 : 0 ≤ n) (h1 : n < 128) (q : ∀ t, Q (.int 1 t) vs led) : Run Γ vs led (call (.ref 179) [.int n t]) Q := by
 refine eF B6n B7z rfl hd hk [("n", some (.int n t)), ("count", none)] ["MAX_64", "BadOption"] fun Γ' U hdp hwp => ?_
 refine xIf ?_
 refine tOr ?_
 refine A0g (Ar.val (En M0)) Ar.con rfl Ci.lt ?_
 refine A1D (by fail "c3") ?_
 refine tOr ?_
 refine A0g (Ar.val (En M0)) (Ar.val (Eg A7z (Cx.Under.gl U) M0)) rfl Ci.gt ?_
 refine A1D (by fail "c3") ?_
 refine A0W ?_
 refine A0R rfl ?_
 refine A0a ?_
 refine xAs rfl ?_
 refine rAr Ar.con fun _ => ?_
 refine kAs V1 ?_
 refine B2e ?_
 refine A0g (Ar.val (En M0)) Ar.con rfl Ci.ge ?_
 refine And.intro (by fail "c3") ?_
 refine A3h (En M1) ?_
 fail "k"
 exact A2a (by exact Sub.refl) (q _)
theorem C0b {n : Int} {t : Tok} (hd : Low Γ k) (hk : k ≤ 590) (e : n = 9) (q : ∀ t, Q (.bytes #[9, 0, 0, 0] t) vs led) : Run Γ vs led (call (.ref 186) [.int n t]) Q := by
 subst e
 refine eF B2J B3j rfl hd hk [("n", some (.int 9 t))] ["MAX_32", "BadOption", "bytes"] fun Γ' U hdp hwp => ?_
 refine xIf ?_
 refine tOr ?_
 refine A0g (Ar.val (En M0)) Ar.con rfl Ci.lt ?_
 refine A1D rfl ?_
 refine tOr ?_
 refine A0g (Ar.val (En M0)) (Ar.val (Eg A5P (Cx.Under.gl U) M0)) rfl Ci.gt ?_
 refine A1D rfl ?_
 refine A0W ?_
 refine A0R rfl ?_
 refine A0a ?_
 refine A1U ?_
 refine rC' (Eb A2f (Cx.Under.gl U) M2) Callee.ty rfl rfl ?_
 refine A0A rfl ?_
 refine A8D ?_
 refine A0k (Ar.bin (Ar.val (En M0)) Ar.con Bo.and) fun _ => ?_
 refine A0k (Ar.bin (Ar.bin (Ar.val (En M0)) Ar.con (Bo.shr (by decide))) Ar.con Bo.and) fun _ => ?_
 refine A0k (Ar.bin (Ar.bin (Ar.val (En M0)) Ar.con (Bo.shr (by decide))) Ar.con Bo.and) fun _ => ?_
 refine A0k (Ar.bin (Ar.val (En M0)) Ar.con (Bo.shr (by decide))) fun _ => ?_
 refine A0d ?_
 refine A0o (by fail "c3") fun _ => ?_
 refine A0d ?_
 refine A2z M0 (PyProof.Rows.IntsAre.cons _ _ (PyProof.Rows.IntsAre.cons _ _ (PyProof.Rows.IntsAre.cons _ _ (PyProof.Rows.IntsAre.cons _ _ PyProof.Rows.IntsAre.nil)))) (by decide) (by fail "c1") fun _ => ?_
 fail "k"
 exact A2a (by exact Sub.skip Sub.refl) (q _)
theorem B7W {n : Int} {t : Tok} (hd : Low Γ k) (hk : k ≤ 590) (e : n = 0) (q : ∀ t, Q (.bytes #[0, 0, 0, 0] t) vs led) : Run Γ vs led (call (.ref 186) [.int n t]) Q := by
 subst e
 refine eF B2J B3j rfl hd hk [("n", some (.int 0 t))] ["MAX_32", "BadOption", "bytes"] fun Γ' U hdp hwp => ?_
 refine xIf ?_
 refine tOr ?_
 refine A0g (Ar.val (En M0)) Ar.con rfl Ci.lt ?_
 refine A1D rfl ?_
 refine tOr ?_
 refine A0g (Ar.val (En M0)) (Ar.val (Eg A5P (Cx.Under.gl U) M0)) rfl Ci.gt ?_
 refine A1D rfl ?_
 refine A0W ?_
 refine A0R rfl ?_
 refine A0a ?_
 refine A1U ?_
 refine rC' (Eb A2f (Cx.Under.gl U) M2) Callee.ty rfl rfl ?_
 refine A0A rfl ?_
 refine A8D ?_
 refine A0k (Ar.bin (Ar.val (En M0)) Ar.con Bo.and) fun _ => ?_
 refine A0k (Ar.bin (Ar.bin (Ar.val (En M0)) Ar.con (Bo.shr (by decide))) Ar.con Bo.and) fun _ => ?_
 refine A0k (Ar.bin (Ar.bin (Ar.val (En M0)) Ar.con (Bo.shr (by decide))) Ar.con Bo.and) fun _ => ?_
 refine A0k (Ar.bin (Ar.val (En M0)) Ar.con (Bo.shr (by decide))) fun _ => ?_
 refine A0d ?_
 refine A0o (by fail "c3") fun _ => ?_
 refine A0d ?_
 refine A2z M0 (PyProof.Rows.IntsAre.cons _ _ (PyProof.Rows.IntsAre.cons _ _ (PyProof.Rows.IntsAre.cons _ _ (PyProof.Rows.IntsAre.cons _ _ PyProof.Rows.IntsAre.nil)))) (by decide) (by fail "c1") fun _ => ?_
 fail "k"
 exact A2a (by exact Sub.skip Sub.refl) (q _)
theorem C0a {t : Tok} (hd : Low Γ k) (hk : k ≤ 580) (q : ∀ t, Q (.bytes #[9, 0, 0, 0, 0, 0, 0, 0] t) vs led) : Run Γ vs led (call (.ref 193) [.int 9 t]) Q := by
 refine eF B6m B7y rfl hd hk [("n", some (.int 9 t))] ["MAX_64", "BadOption", "put_fixed32", "MAX_32"] fun Γ' U hdp hwp => ?_
 refine xIf ?_
 refine tOr ?_
 refine A0g (Ar.val (En M0)) Ar.con rfl Ci.lt ?_
 refine A1D rfl ?_
 refine tOr ?_
 refine A0g (Ar.val (En M0)) (Ar.val (Eg A7z (Cx.Under.gl U) M0)) rfl Ci.gt ?_
 refine A1D rfl ?_
 refine A0W ?_
 refine A0R rfl ?_
 refine A0a ?_
 refine A1U ?_
 refine A9Q ?_
 refine rC' (Eg A4u (Cx.Under.gl U) M2) (Callee.fn B2M) rfl rfl ?_
 refine A0k (Ar.bin (Ar.val (En M0)) (Ar.val (Eg A5P (Cx.Under.gl U) M3)) Bo.and) fun _ => ?_
 refine A0d ?_
 refine C0b hdp (up1 hk rfl) rfl fun _ => ?_
 refine rC' (Eg A4u (Cx.Under.gl U) M2) (Callee.fn B2M) rfl rfl ?_
 refine A0k (Ar.bin (Ar.val (En M0)) Ar.con (Bo.shr (by decide))) fun _ => ?_
 refine A0d ?_
 refine B7W hdp (up1 hk rfl) rfl fun _ => ?_
 refine A7Q (by decide) fun _ => ?_
 fail "k"
 exact A2a (by exact Sub.refl) (q _)
theorem B1P {t : Tok} (hd : Low Γ k) (hk : k ≤ 570) (q : ∀ t, Q (.bytes #[115, 0, 0, 0, 0, 0, 0, 0, 9] t) vs led) : Run Γ vs led (call (.ref 919) [.int 9 t]) Q := by
 refine eF B5J B6V rfl hd hk [("client", some (.int 9 t)), ("low", none)] ["put_fixed64", "SESSION_HEAD", "bytes"] fun Γ' U hdp hwp => ?_
 refine xAs rfl ?_
 refine rC (Eg A6h (Cx.Under.gl U) M0) (Callee.fn B6A) (Evs.cons (En M0) Evs.nil) ?_
 refine C0a hdp (up1 hk rfl) fun _ => ?_
 refine kAs V1 ?_
 refine A1U ?_
 refine B5y (Eg A3d (Cx.Under.gl U) M1) ?_
 refine rC' (Eb A2f (Cx.Under.gl U) M2) Callee.ty rfl rfl ?_
 refine A0A rfl ?_
 refine A8D ?_
 refine A0k (Ar.byt (En M1) Ar.con rfl (by decide) (by decide) (by intro _; with_unfolding_all rfl) (by intro _; with_unfolding_all rfl)) fun _ => ?_
 refine A0k (Ar.byt (En M1) Ar.con rfl (by decide) (by decide) (by intro _; with_unfolding_all rfl) (by intro _; with_unfolding_all rfl)) fun _ => ?_
 refine A0k (Ar.byt (En M1) Ar.con rfl (by decide) (by decide) (by intro _; with_unfolding_all rfl) (by intro _; with_unfolding_all rfl)) fun _ => ?_
 refine A0k (Ar.byt (En M1) Ar.con rfl (by decide) (by decide) (by intro _; with_unfolding_all rfl) (by intro _; with_unfolding_all rfl)) fun _ => ?_
 refine A0k (Ar.byt (En M1) Ar.con rfl (by decide) (by decide) (by intro _; with_unfolding_all rfl) (by intro _; with_unfolding_all rfl)) fun _ => ?_
 refine A0k (Ar.byt (En M1) Ar.con rfl (by decide) (by decide) (by intro _; with_unfolding_all rfl) (by intro _; with_unfolding_all rfl)) fun _ => ?_
 refine A0k (Ar.byt (En M1) Ar.con rfl (by decide) (by decide) (by intro _; with_unfolding_all rfl) (by intro _; with_unfolding_all rfl)) fun _ => ?_
 refine A0k (Ar.byt (En M1) Ar.con rfl (by decide) (by decide) (by intro _; with_unfolding_all rfl) (by intro _; with_unfolding_all rfl)) fun _ => ?_
 refine A0d ?_
 refine A0o (by fail "c3") fun _ => ?_
 refine A0d ?_
 refine A2z M0 (PyProof.Rows.IntsAre.cons _ _ (PyProof.Rows.IntsAre.cons _ _ (PyProof.Rows.IntsAre.cons _ _ (PyProof.Rows.IntsAre.cons _ _ (PyProof.Rows.IntsAre.cons _ _ (PyProof.Rows.IntsAre.cons _ _ (PyProof.Rows.IntsAre.cons _ _ (PyProof.Rows.IntsAre.cons _ _ PyProof.Rows.IntsAre.nil)))))))) (by decide) (by fail "c1") fun _ => ?_
 refine A7Q (by decide) fun _ => ?_
 fail "k"
 exact A2a (by exact Sub.skip Sub.refl) (q _)
theorem A5j {t : Tok} (hd : Low Γ k) (hk : k ≤ 590) (q : ∀ t, Q (.bytes #[100, 107] t) vs led) : Run Γ vs led (call (.ref 912) [.bytes #[107] t]) Q := by
 refine eF B5K B6W rfl hd hk [("key", some (.bytes #[107] t))] ["DATA_HEAD"] fun Γ' U hdp hwp => ?_
 refine A1U ?_
 refine B1v (Eg A3o (Cx.Under.gl U) M0) (En M0) ?_
 refine A7Q (by decide) fun _ => ?_
 fail "k"
 exact A2a (by exact Sub.refl) (q _)
end
end Mine
namespace Mine
section
variable {Γ : Cx} {vs : A0e} {led R : Led} {Q : Value → A0e → Led → Prop} {k : Nat}
theorem B1U {b : Array UInt8} {t : Tok} (hd : Low Γ k) (hk : k ≤ 590) (hz : b.size ≤ 100000) (q : ∀ c cd t', Q (.ref c) vs ((cd, .flds [("data", .bytes b t), ("at", .int 0 t')]) :: (c, .inst 295 cd) :: led)) : Run Γ vs led (call (.ref 295) [.bytes b t]) Q := by
 refine eM (hb := fun x s X => kp_binds X (fun S => by kernel_rfl)) A2H B6k B7w rfl hd hk (fun x => [("self", some (.ref x)), ("data", some (.bytes b t)), ("at", some (.int 0 462))]) ["len", "ShortOctets"] fun x d Γ' U hdp hwp => ?_
 refine xIf ?_
 refine tOr ?_
 refine A0g (Ar.val (En M2)) Ar.con rfl Ci.lt ?_
 refine A1D rfl ?_
 refine tOr ?_
 refine A0g (Ar.val (En M2)) (Ar.len (Eb A1n (Cx.Under.gl U) M0) (En M1) (Ln.byt (up0 hz rfl))) rfl Ci.gt ?_
 refine A1D rfl ?_
 refine A0W ?_
 refine A0R rfl ?_
 refine A0a ?_
 refine A1x (En M1) rfl ?_
 refine A3i (En M0) M0 M1 A2H Snoc.nil rfl U1 A0V ?_
 refine A1x (En M2) rfl ?_
 refine A3i (En M0) M0 M1 A2H (Snoc.cons Snoc.nil) rfl U1 A0F ?_
 refine A0a ?_
 refine A0n ?_
 fail "kM"
 exact A6N (by exact Sub.cons E1 Sub.refl) (q _ _ _)
theorem A6m {c cd : Addr} {l : List UInt8} {t u : Tok} {a : Int} {x : UInt8} (hd : Low Γ k) (hk : k ≤ 590) (P : Pick [(cd, .flds [("data", .bytes l.toArray t), ("at", .int a u)])] led R) (hc : (c, .inst 295 cd) ∈ R)
  (hx : l[a.toNat]? = some x) (h0 : 0 ≤ a) (h1 : x.toNat < 128) (hz : l.length ≤ 100000)
  (q : ∀ t' u', Q (.int x.toNat t') vs ((cd, .flds [("data", .bytes l.toArray t), ("at", .int (a + 1) u')]) :: R)) : Run Γ vs led (call (.ref 243) [.ref c]) Q := by
 have hlt : a.toNat < l.length := (List.getElem?_eq_some_iff.mp hx).1
 refine Run.pick1 P ?_
 refine eF B6j B7v rfl hd hk [("self", some (.ref c)), ("at", none), ("n", none)] ["len", "read_varint"] fun Γ' U hdp hwp => ?_
 refine A4Y (Ea M0 (N1 hc) M0 M1 A0F rfl) rfl V1 ?_
 refine xIf ?_
 refine A3K ?_
 refine A0g (Ar.val (En M1)) (Ar.len (Eb A1n (Cx.Under.gl U) M0) (Ea M0 (N1 hc) M0 M0 A0V rfl) (Ln.byt (by fail "c1"))) rfl Ci.lt ?_
 refine A3N (by fail "c3") ?_
 refine A3K ?_
 refine A0g (Ar.byt (Ea M0 (N1 hc) M0 M0 A0V rfl) (Ar.val (En M1)) hx (up0 hz rfl) h0 (by intro _; with_unfolding_all rfl) (by intro _; with_unfolding_all rfl)) Ar.con rfl Ci.lt ?_
 refine A3N (by fail "c3") ?_
 refine A2I ?_
 refine A2s rfl ?_
 refine A4n rfl ?_
 refine rAr (Ar.bin (Ar.val (En M1)) Ar.con Bo.add) fun _ => ?_
 refine A4A (En M0) (N1 hc) U0 F1 A0F A4H ?_
 refine A1U ?_
 refine rAr (Ar.byt (Ea M0 (N1 hc) M0 M0 A0V rfl) (Ar.val (En M1)) hx (up0 hz rfl) h0 (by intro _; with_unfolding_all rfl) (by intro _; with_unfolding_all rfl)) fun _ => ?_
 fail "k"
 exact A2a (by exact Sub.refl) (q _ _)
theorem C0c {l : List UInt8} {t u : Tok} {a : Int} {x : UInt8} (hd : Low Γ k) (hk : k ≤ 590) (hx : l[a.toNat]? = some x) (h0 : 0 ≤ a) (h1 : x.toNat < 128) (hz : l.length ≤ 100000)
  (q : ∀ p t' u', Q (.ref p) vs ((p, .tup [.int x.toNat t', .int (a + 1) u']) :: led)) : Run Γ vs led (call (.ref 172) [.bytes l.toArray t, .int a u]) Q := by
 have hlt : a.toNat < l.length := (List.getElem?_eq_some_iff.mp hx).1
 refine eF B6o B7A rfl hd hk [("data", some (.bytes l.toArray t)), ("at", some (.int a u))] ["len", "read_groups", "MAX_32"] fun Γ' U hdp hwp => ?_
 refine xIf ?_
 refine A3K ?_
 refine A0g (Ar.val (En M1)) Ar.con rfl Ci.ge ?_
 refine A3N (by fail "c3") ?_
 refine A3K ?_
 refine A0g (Ar.val (En M1)) (Ar.len (Eb A1n (Cx.Under.gl U) M0) (En M0) (Ln.byt (by fail "c1"))) rfl Ci.lt ?_
 refine A3N (by fail "c3") ?_
 refine A3K ?_
 refine A0g (Ar.byt (En M0) (Ar.val (En M1)) hx (up0 hz rfl) h0 (by intro _; with_unfolding_all rfl) (by intro _; with_unfolding_all rfl)) Ar.con rfl Ci.lt ?_
 refine A3N (by fail "c3") ?_
 refine A2I ?_
 refine A2s rfl ?_
 refine A1U ?_
 refine A6s ?_
 refine A0k (Ar.byt (En M0) (Ar.val (En M1)) hx (up0 hz rfl) h0 (by intro _; with_unfolding_all rfl) (by intro _; with_unfolding_all rfl)) fun _ => ?_
 refine A0k (Ar.bin (Ar.val (En M1)) Ar.con Bo.add) fun _ => ?_
 refine A0d ?_
 refine A0q (by fail "c3") fun _ => ?_
 fail "k"
 exact A2a (by exact Sub.refl) (q _ _ _)
theorem B9Z {l body : List UInt8} {t u : Tok} {a : Int} {x : UInt8} (hd : Low Γ k) (hk : k ≤ 580) (hx : l[a.toNat]? = some x) (h0 : 0 ≤ a) (h1 : x.toNat < 128) (hz : l.length ≤ 100000) (hb : (l.drop (a.toNat + 1)).take x.toNat = body) (hf : a + 1 + x.toNat ≤ l.length)
  (q : ∀ p t' u', Q (.ref p) vs ((p, .tup [.bytes body.toArray t', .int (a + 1 + x.toNat) u']) :: led)) : Run Γ vs led (call (.ref 214) [.bytes l.toArray t, .int a u]) Q := by
 refine eF B6l B7x rfl hd hk [("data", some (.bytes l.toArray t)), ("at", some (.int a u)), ("count", none)] ["read_varint32", "len", "ShortOctets", "bytes"] fun Γ' U hdp hwp => ?_
 refine B1m rfl rfl ?_
 refine rC (Eg A5v (Cx.Under.gl U) M0) (Callee.fn B6B) (Evs.cons (En M0) (Evs.cons (En M1) Evs.nil)) ?_
 refine C0c hdp (up1 hk rfl) hx h0 h1 hz fun _ _ _ => ?_
 refine A1O M0 rfl rfl ?_
 refine A0Y ?_
 refine A0b V2 ?_
 refine A0Y ?_
 refine A0b V1 ?_
 refine A4X ?_
 refine xIf ?_
 refine A0g (Ar.bin (Ar.val (En M1)) (Ar.val (En M2)) Bo.add) (Ar.len (Eb A1n (Cx.Under.gl U) M1) (En M0) (Ln.byt (by fail "c1"))) rfl Ci.gt ?_
 refine A0R (by fail "c3") ?_
 refine A0a ?_
 refine A1U ?_
 refine A6s ?_
 refine A0A rfl ?_
 refine rC' (Eb A2f (Cx.Under.gl U) M3) Callee.ty rfl rfl ?_
 refine A0A rfl ?_
 refine B1u (En M0) ?_
 refine A7g ?_
 refine A6a ?_
 refine rE (En M1) ?_
 refine A6a ?_
 refine rAr (Ar.bin (Ar.val (En M1)) (Ar.val (En M2)) Bo.add) fun _ => ?_
 refine AllA.mk fun _ => ?_
 refine A6G M0 (PySem.IsPart.int _ _) (PySem.IsPart.int _ _) (by fail "c1") (fun _ => ?_) rfl (by intro _; with_unfolding_all rfl)
 refine A0d ?_
 refine A5A ?_
 refine A0k (Ar.bin (Ar.val (En M1)) (Ar.val (En M2)) Bo.add) fun _ => ?_
 refine A0d ?_
 refine A0q (by fail "c3") fun _ => ?_
 have hb' : (l.drop (a + 1).toNat).take x.toNat = body := by rw [show (a + 1).toNat = a.toNat + 1 by omega]; exact hb
 rw [A9i (body := body) (n := x.toNat) (by omega) rfl hf hb']
 fail "k"
 exact A2a (by exact Sub.cons E0 (Sub.skip (Sub.skip Sub.refl))) (q _ _ _)
theorem A7M {c cd : Addr} {l body : List UInt8} {t u : Tok} {a : Int} {x : UInt8} (hd : Low Γ k) (hk : k ≤ 570) (P : Pick [(cd, .flds [("data", .bytes l.toArray t), ("at", .int a u)])] led R) (hc : (c, .inst 295 cd) ∈ R)
  (hx : l[a.toNat]? = some x) (h0 : 0 ≤ a) (h1 : x.toNat < 128) (hz : l.length ≤ 100000) (hb : (l.drop (a.toNat + 1)).take x.toNat = body) (hf : a + 1 + x.toNat ≤ l.length)
  (q : ∀ t' u', Q (.bytes body.toArray t') vs ((cd, .flds [("data", .bytes l.toArray t), ("at", .int (a + 1 + x.toNat) u')]) :: R)) : Run Γ vs led (call (.ref 264) [.ref c]) Q := by
 refine Run.pick1 P ?_
 refine eF B6i B7u rfl hd hk [("self", some (.ref c)), ("b", none), ("at", none)] ["read_lengthed"] fun Γ' U hdp hwp => ?_
 refine B1m rfl rfl ?_
 refine rC (Eg A5w (Cx.Under.gl U) M0) (Callee.fn B6z) (Evs.cons (Ea M0 (N1 hc) M0 M0 A0V rfl) (Evs.cons (Ea M0 (N1 hc) M0 M1 A0F rfl) Evs.nil)) ?_
 refine B9Z hdp (up1 hk rfl) hx h0 h1 hz hb hf fun _ _ _ => ?_
 refine A1O M0 rfl rfl ?_
 refine A0Y ?_
 refine A0b V1 ?_
 refine A0Y ?_
 refine A0b V2 ?_
 refine A4X ?_
 refine A1x (En M2) rfl ?_
 refine A4A (En M0) (N2 hc) U1 F1 A0F A4H ?_
 refine A3h (En M1) ?_
 fail "k"
 exact A2a (by exact Sub.cons E1 (Sub.skip Sub.refl)) (q _ _)
theorem B3t {c cd : Addr} {l : List UInt8} {t u : Tok} {a : Int} (hd : Low Γ k) (hk : k ≤ 590) (P : Pick [(cd, .flds [("data", .bytes l.toArray t), ("at", .int a u)])] led R) (hc : (c, .inst 295 cd) ∈ R)
  (hx : l[a.toNat]? = some 1) (h0 : 0 ≤ a) (hz : l.length ≤ 100000)
  (q : ∀ u', Q (.bool true) vs ((cd, .flds [("data", .bytes l.toArray t), ("at", .int (a + 1) u')]) :: R)) : Run Γ vs led (call (.ref 278) [.ref c]) Q := by
 have hlt : a.toNat < l.length := (List.getElem?_eq_some_iff.mp hx).1
 refine Run.pick1 P ?_
 refine eF B2I B3i rfl hd hk [("self", some (.ref c)), ("n", none)] ["len", "ShortOctets", "Corrupt"] fun Γ' U hdp hwp => ?_
 refine xIf ?_
 refine A0g (Ar.val (Ea M0 (N1 hc) M0 M1 A0F rfl)) (Ar.len (Eb A1n (Cx.Under.gl U) M0) (Ea M0 (N1 hc) M0 M0 A0V rfl) (Ln.byt (by fail "c1"))) rfl Ci.ge ?_
 refine A0R (by fail "c3") ?_
 refine A0a ?_
 refine xAs rfl ?_
 refine rAr (Ar.byt (Ea M0 (N1 hc) M0 M0 A0V rfl) (Ar.val (Ea M0 (N1 hc) M0 M1 A0F rfl)) hx (up0 hz rfl) h0 (by intro _; with_unfolding_all rfl) (by intro _; with_unfolding_all rfl)) fun _ => ?_
 refine kAs V1 ?_
 refine xIf ?_
 refine A0g (Ar.val (En M1)) Ar.con rfl Ci.gt ?_
 refine A0R rfl ?_
 refine A0a ?_
 refine xAt (En M0) (N1 hc) M0 M1 A0F rfl ?_
 refine rAr Ar.con fun _ => ?_
 refine A4P fun _ => ?_
 refine kSt (N1 hc) U0 F1 A0F A4H ?_
 refine A1U ?_
 refine B3L rfl ?_
 refine rE (En M1) ?_
 refine rAr Ar.con fun _ => ?_
 refine rCm Cm.eq ?_
 fail "k"
 exact A2a (by exact Sub.refl) (q _)
theorem B7V {c cd : Addr} {l : List UInt8} {t u : Tok} {a : Int} (hd : Low Γ k) (hk : k ≤ 590) (P : Pick [(cd, .flds [("data", .bytes l.toArray t), ("at", .int a u)])] led R) (hc : (c, .inst 295 cd) ∈ R)
  (hx : l[a.toNat]? = some 0) (h0 : 0 ≤ a) (hz : l.length ≤ 100000)
  (q : ∀ u', Q (.bool false) vs ((cd, .flds [("data", .bytes l.toArray t), ("at", .int (a + 1) u')]) :: R)) : Run Γ vs led (call (.ref 278) [.ref c]) Q := by
 have hlt : a.toNat < l.length := (List.getElem?_eq_some_iff.mp hx).1
 refine Run.pick1 P ?_
 refine eF B2I B3i rfl hd hk [("self", some (.ref c)), ("n", none)] ["len", "ShortOctets", "Corrupt"] fun Γ' U hdp hwp => ?_
 refine xIf ?_
 refine A0g (Ar.val (Ea M0 (N1 hc) M0 M1 A0F rfl)) (Ar.len (Eb A1n (Cx.Under.gl U) M0) (Ea M0 (N1 hc) M0 M0 A0V rfl) (Ln.byt (by fail "c1"))) rfl Ci.ge ?_
 refine A0R (by fail "c3") ?_
 refine A0a ?_
 refine xAs rfl ?_
 refine rAr (Ar.byt (Ea M0 (N1 hc) M0 M0 A0V rfl) (Ar.val (Ea M0 (N1 hc) M0 M1 A0F rfl)) hx (up0 hz rfl) h0 (by intro _; with_unfolding_all rfl) (by intro _; with_unfolding_all rfl)) fun _ => ?_
 refine kAs V1 ?_
 refine xIf ?_
 refine A0g (Ar.val (En M1)) Ar.con rfl Ci.gt ?_
 refine A0R rfl ?_
 refine A0a ?_
 refine xAt (En M0) (N1 hc) M0 M1 A0F rfl ?_
 refine rAr Ar.con fun _ => ?_
 refine A4P fun _ => ?_
 refine kSt (N1 hc) U0 F1 A0F A4H ?_
 refine A1U ?_
 refine B3L rfl ?_
 refine rE (En M1) ?_
 refine rAr Ar.con fun _ => ?_
 refine rCm Cm.eq ?_
 fail "k"
 exact A2a (by exact Sub.refl) (q _)
theorem B1V {c cd : Addr} {l : List UInt8} {t u : Tok} {a : Int} (hd : Low Γ k) (hk : k ≤ 590) (hc : (c, .inst 295 cd) ∈ led) (P : (cd, .flds [("data", .bytes l.toArray t), ("at", .int a u)]) ∈ led)
  (ha : a = l.length) (hz : l.length ≤ 100000)
  (q : Q .none vs led) : Run Γ vs led (call (.ref 292) [.ref c]) Q := by
 refine eF B6h B7t rfl hd hk [("self", some (.ref c))] ["len", "Corrupt"] fun Γ' U hdp hwp => ?_
 refine xIf ?_
 refine A0g (Ar.val (Ea M0 hc P M1 A0F rfl)) (Ar.len (Eb A1n (Cx.Under.gl U) M0) (Ea M0 hc P M0 A0V rfl) (Ln.byt (by fail "c1"))) rfl Ci.lt ?_
 refine A0R (by fail "c3") ?_
 refine A0a ?_
 refine A0a ?_
 refine A0n ?_
 fail "k"
 exact A2a (by exact Sub.refl) (q)
theorem B3m {c cd : Addr} {l : List UInt8} {t u : Tok} {a : Int} (hd : Low Γ k) (hk : k ≤ 560) (P : Pick [(cd, .flds [("data", .bytes l.toArray t), ("at", .int a u)])] led R) (hc : (c, .inst 295 cd) ∈ R)
  (hx : l[a.toNat]? = some 0) (h0 : 0 ≤ a) (hz : l.length ≤ 100000)
  (q : ∀ u', Q .none vs ((cd, .flds [("data", .bytes l.toArray t), ("at", .int (a + 1) u')]) :: R)) : Run Γ vs led (call (.ref 891) [.ref c]) Q := by
 refine Run.pick1 P ?_
 refine eF B2v B2V rfl hd hk [("cursor", some (.ref c))] [] fun Γ' U hdp hwp => ?_
 refine xIf ?_
 refine A2t rfl ?_
 refine rM (En M0) (Gm.inst (N1 hc) M0 A3s rfl) Evs.nil rfl ?_
 refine B7V hdp (up1 hk rfl) (Pick.cons E0 Pick.nil) hc hx h0 hz fun _ => ?_
 refine A0c ?_
 refine A0R rfl ?_
 refine A0a ?_
 refine A3h Eo ?_
 fail "k"
 exact A2a (by exact Sub.refl) (q _)
theorem B7L {c cd : Addr} {l body : List UInt8} {t u : Tok} {a : Int} {x : UInt8} (hd : Low Γ k) (hk : k ≤ 560) (P : Pick [(cd, .flds [("data", .bytes l.toArray t), ("at", .int a u)])] led R) (hc : (c, .inst 295 cd) ∈ R)
  (hx : l[a.toNat]? = some 1) (hy : l[(a + 1).toNat]? = some x) (h0 : 0 ≤ a) (h1 : x.toNat < 128) (hz : l.length ≤ 100000) (hb : (l.drop ((a + 1).toNat + 1)).take x.toNat = body) (hf : a + 1 + 1 + x.toNat ≤ l.length)
  (q : ∀ t' u', Q (.bytes body.toArray t') vs ((cd, .flds [("data", .bytes l.toArray t), ("at", .int (a + 1 + 1 + x.toNat) u')]) :: R)) : Run Γ vs led (call (.ref 891) [.ref c]) Q := by
 refine Run.pick1 P ?_
 refine eF B2v B2V rfl hd hk [("cursor", some (.ref c))] [] fun Γ' U hdp hwp => ?_
 refine xIf ?_
 refine A2t rfl ?_
 refine rM (En M0) (Gm.inst (N1 hc) M0 A3s rfl) Evs.nil rfl ?_
 refine B3t hdp (up1 hk rfl) (Pick.cons E0 Pick.nil) hc hx h0 hz fun _ => ?_
 refine A0c ?_
 refine A2s rfl ?_
 refine A1U ?_
 refine rM (En M0) (Gm.inst (N1 hc) M0 A0O rfl) Evs.nil rfl ?_
 refine A7M hdp (up1 hk rfl) (Pick.cons E0 Pick.nil) hc hy (by omega) h1 hz hb hf fun _ _ => ?_
 fail "k"
 exact A2a (by exact Sub.refl) (q _ _)
end
end Mine
namespace Mine
section
variable {Γ : Cx} {vs : A0e} {led R : Led} {Q : Value → A0e → Led → Prop} {k : Nat}
theorem B3o {s sd p : Addr} {b : Array UInt8} (hd : Low Γ k) (hk : k ≤ 570) (hn : Γ.nd = true) (P : Pick [(p, .ba b)] led R) (hs : (s, .inst 372 sd) ∈ R) (hf : (sd, .flds [("parts", .ref p)]) ∈ R) (hz : b.size ≤ 90000)
  (q : Q .none vs ((p, .ba (b.push 0)) :: R)) : Run Γ vs led (call (.ref 884) [.ref s, .none]) Q := by
 refine Run.pick1 P ?_
 refine eF B2w B2W rfl hd hk [("sink", some (.ref s)), ("octets", some (.none))] [] fun Γ' U hdp hwp => ?_
 have hnp := U.nd.trans hn
 refine A1A rfl ?_
 refine rM' (En M0) (Gm.inst (N1 hs) (N1 hf) A3Q rfl) rfl rfl rfl ?_
 refine A0A rfl ?_
 refine A3O (En M1) Eo rfl ?_
 refine rCm Cm.noNN ?_
 refine A0d ?_
 refine B7T hdp (up1 hk rfl) hnp (Pick.cons E0 Pick.nil) hs hf (up0 hz rfl) ?_
 refine A1B ?_
 refine xIf ?_
 refine A1K (En M1) Eo rfl Cm.noNN ?_
 refine A0R rfl ?_
 refine A0a ?_
 refine A0a ?_
 refine A0n ?_
 fail "k"
 exact A2a (by exact Sub.refl) (q)
theorem B3n {s sd p : Addr} {b c : Array UInt8} {t : Tok} (hd : Low Γ k) (hk : k ≤ 570) (hn : Γ.nd = true) (P : Pick [(p, .ba b)] led R) (hs : (s, .inst 372 sd) ∈ R) (hf : (sd, .flds [("parts", .ref p)]) ∈ R) (hz : b.size ≤ 90000) (hc : c.size < 128)
  (q : Q .none vs ((p, .ba (b.push 1 ++ #[c.size.toUInt8] ++ c)) :: R)) : Run Γ vs led (call (.ref 884) [.ref s, .bytes c t]) Q := by
 refine Run.pick1 P ?_
 refine eF B2w B2W rfl hd hk [("sink", some (.ref s)), ("octets", some (.bytes c t))] [] fun Γ' U hdp hwp => ?_
 have hnp := U.nd.trans hn
 refine A1A rfl ?_
 refine rM' (En M0) (Gm.inst (N1 hs) (N1 hf) A3Q rfl) rfl rfl rfl ?_
 refine A0A rfl ?_
 refine A3O (En M1) Eo rfl ?_
 refine rCm (Cm.noN (fun e => Value.noConfusion e)) ?_
 refine A0d ?_
 refine B3s hdp (up1 hk rfl) hnp (Pick.cons E0 Pick.nil) hs hf (up0 hz rfl) ?_
 refine A1B ?_
 refine xIf ?_
 refine A1K (En M1) Eo rfl (Cm.noN (fun e => Value.noConfusion e)) ?_
 refine A2s rfl ?_
 refine A1A rfl ?_
 refine rM (En M0) (Gm.inst (N1 hs) (N1 hf) A1l rfl) (Evs.cons (En M1) Evs.nil) rfl ?_
 refine A8r hdp (up1 hk rfl) hnp (Pick.cons E0 Pick.nil) hs hf (by fail "c1") hc ?_
 refine A1B ?_
 refine A0a ?_
 refine A0a ?_
 refine A0n ?_
 fail "k"
 exact A2a (by exact Sub.refl) (q)
theorem A5X {n : Int} {t : Tok} (hd : Low Γ k) (hk : k ≤ 560) (hn : Γ.nd = true) (h0 : 0 ≤ n) (h1 : n < 256) (q : ∀ t, Q (.bytes #[n.toNat.toUInt8, 0] t) vs led) : Run Γ vs led (call (.ref 905) [.int n t, .none]) Q := by
 refine eF B2u B2U rfl hd hk [("code", some (.int n t)), ("old", some (.none)), ("sink", none)] ["Sink", "put_maybe"] fun Γ' U hdp hwp => ?_
 have hnp := U.nd.trans hn
 refine xAs rfl ?_
 refine rC (Eg A5e (Cx.Under.gl U) M0) (Callee.fn (Cls.keeps A4a)) Evs.nil ?_
 refine A9D hdp (up1 hk rfl) hnp fun _ _ _ => ?_
 refine kAs V2 ?_
 refine A1A rfl ?_
 refine rM (En M2) (Gm.inst M1 M2 A4N rfl) (Evs.cons (En M0) Evs.nil) rfl ?_
 refine B7U hdp (up1 hk rfl) hnp (Pick.cons E0 Pick.nil) M0 M1 h0 h1 (by decide) ?_
 refine A1B ?_
 refine A1A rfl ?_
 refine rC (Eg A3n (Cx.Under.gl U) M1) (Callee.fn A8O) (Evs.cons (En M2) (Evs.cons (En M1) Evs.nil)) ?_
 refine B3o hdp (up1 hk rfl) hnp (Pick.cons E0 Pick.nil) M0 M1 (by fail "c1") ?_
 refine A1B ?_
 refine A1U ?_
 refine rM (En M2) (Gm.inst M1 M2 A2j rfl) Evs.nil rfl ?_
 refine A9E hdp (up1 hk rfl) M1 M2 M0 (by fail "c1") fun _ => ?_
 fail "k"
 exact A2a (by exact Sub.skip (Sub.skip (Sub.skip Sub.refl))) (q _)
theorem B7H {n : Int} {t u : Tok} {c : Array UInt8} (hd : Low Γ k) (hk : k ≤ 560) (hn : Γ.nd = true) (h0 : 0 ≤ n) (h1 : n < 256) (hc : c.size < 128) (q : ∀ t, Q (.bytes (#[n.toNat.toUInt8, 1, c.size.toUInt8] ++ c) t) vs led) : Run Γ vs led (call (.ref 905) [.int n t, .bytes c u]) Q := by
 refine eF B2u B2U rfl hd hk [("code", some (.int n t)), ("old", some (.bytes c u)), ("sink", none)] ["Sink", "put_maybe"] fun Γ' U hdp hwp => ?_
 have hnp := U.nd.trans hn
 refine xAs rfl ?_
 refine rC (Eg A5e (Cx.Under.gl U) M0) (Callee.fn (Cls.keeps A4a)) Evs.nil ?_
 refine A9D hdp (up1 hk rfl) hnp fun _ _ _ => ?_
 refine kAs V2 ?_
 refine A1A rfl ?_
 refine rM (En M2) (Gm.inst M1 M2 A4N rfl) (Evs.cons (En M0) Evs.nil) rfl ?_
 refine B7U hdp (up1 hk rfl) hnp (Pick.cons E0 Pick.nil) M0 M1 h0 h1 (by decide) ?_
 refine A1B ?_
 refine A1A rfl ?_
 refine rC (Eg A3n (Cx.Under.gl U) M1) (Callee.fn A8O) (Evs.cons (En M2) (Evs.cons (En M1) Evs.nil)) ?_
 refine B3n hdp (up1 hk rfl) hnp (Pick.cons E0 Pick.nil) M0 M1 (by fail "c1") hc ?_
 refine A1B ?_
 refine A1U ?_
 refine rM (En M2) (Gm.inst M1 M2 A2j rfl) Evs.nil rfl ?_
 refine A9E hdp (up1 hk rfl) M1 M2 M0 (by fail "c1") fun _ => ?_
 fail "k"
 exact A2a (by exact Sub.skip (Sub.skip (Sub.skip Sub.refl))) (q _)
theorem B7G {n : Int} {o : Bool} {t u : Tok} {rep : List UInt8} (hd : Low Γ k) (hk : k ≤ 560) (hn : Γ.nd = true) (ho : o = true) (h0 : 0 ≤ n) (h1 : n < 128) (hc : rep.length < 128) (q : ∀ t, Q (.bytes (n.toNat.toUInt8 :: 1 :: rep.length.toUInt8 :: rep).toArray t) vs led) :
  Run Γ vs led (call (.ref 933) [.int n t, .bool o, .bytes rep.toArray u]) Q := by
 subst ho
 refine eF B5H B6T rfl hd hk [("last", some (.int n t)), ("is_open", some (.bool true)), ("reply", some (.bytes rep.toArray u)), ("sink", none)] ["Sink"] fun Γ' U hdp hwp => ?_
 have hnp := U.nd.trans hn
 refine xAs rfl ?_
 refine rC (Eg A5e (Cx.Under.gl U) M0) (Callee.fn (Cls.keeps A4a)) Evs.nil ?_
 refine A9D hdp (up1 hk rfl) hnp fun _ _ _ => ?_
 refine kAs V3 ?_
 refine A1A rfl ?_
 refine rM (En M3) (Gm.inst M1 M2 A1h rfl) (Evs.cons (En M0) Evs.nil) rfl ?_
 refine A7d hdp (up1 hk rfl) hnp (Pick.cons E0 Pick.nil) M0 M1 h0 h1 (by decide) ?_
 refine A1B ?_
 refine A1A rfl ?_
 refine rM (En M3) (Gm.inst M1 M2 A3Q rfl) (Evs.cons (En M1) Evs.nil) rfl ?_
 refine B3s hdp (up1 hk rfl) hnp (Pick.cons E0 Pick.nil) M0 M1 (by fail "c1") ?_
 refine A1B ?_
 refine A1A rfl ?_
 refine rM (En M3) (Gm.inst M1 M2 A1l rfl) (Evs.cons (En M2) Evs.nil) rfl ?_
 refine A8r hdp (up1 hk rfl) hnp (Pick.cons E0 Pick.nil) M0 M1 (by fail "c1") hc ?_
 refine A1B ?_
 refine A1U ?_
 refine rM (En M3) (Gm.inst M1 M2 A2j rfl) Evs.nil rfl ?_
 refine A9E hdp (up1 hk rfl) M1 M2 M0 (by fail "c1") fun _ => ?_
 have e : ((#[].push n.toNat.toUInt8).push 1 ++ #[rep.toArray.size.toUInt8] ++ rep.toArray : Array UInt8) = (n.toNat.toUInt8 :: 1 :: rep.length.toUInt8 :: rep).toArray := by simp
 rw [e]
 fail "k"
 exact A2a (by exact Sub.skip (Sub.skip (Sub.skip Sub.refl))) (q _)
theorem B7F {N L : UInt8} {t : Tok} {rep : List UInt8} (hd : Low Γ k) (hk : k ≤ 560) (h1 : N.toNat < 128) (hc : rep.length < 128) (hL : L.toNat = rep.length)
  (q : ∀ p t t', Q (.ref p) vs ((p, .tup [.int N.toNat t, .bool true, .bytes rep.toArray t']) :: led)) : Run Γ vs led (call (.ref 940) [.bytes (N :: 1 :: L :: rep).toArray t]) Q := by
 refine eF B5G B6S rfl hd hk [("data", some (.bytes (N :: 1 :: L :: rep).toArray t)), ("cursor", none), ("last", none), ("is_open", none), ("reply", none)] ["Cursor"] fun Γ' U hdp hwp => ?_
 refine xAs rfl ?_
 refine rC (Eg A4Q (Cx.Under.gl U) M0) (Callee.fn (Cls.keeps A2H)) (Evs.cons (En M0) Evs.nil) ?_
 refine B1U hdp (up1 hk rfl) (by fail "c1") fun _ _ _ => ?_
 refine kAs V1 ?_
 refine xAs rfl ?_
 refine rM (En M1) (Gm.inst M1 M0 A0J rfl) Evs.nil rfl ?_
 refine A6m hdp (up1 hk rfl) (Pick.cons E0 Pick.nil) M0 rfl (by decide) h1 (by fail "c1") fun _ _ => ?_
 refine kAs V2 ?_
 refine xAs rfl ?_
 refine rM (En M1) (Gm.inst M1 M0 A3s rfl) Evs.nil rfl ?_
 refine B3t hdp (up1 hk rfl) (Pick.cons E0 Pick.nil) M0 rfl (by decide) (by fail "c1") fun _ => ?_
 refine kAs V3 ?_
 refine xAs rfl ?_
 refine rM (En M1) (Gm.inst M1 M0 A0O rfl) Evs.nil rfl ?_
 refine A7M hdp (up1 hk rfl) (Pick.cons E0 Pick.nil) M0 rfl (by decide) (by omega) (by fail "c1") rfl (by fail "c1") fun _ _ => ?_
 refine kAs V4 ?_
 refine A1A rfl ?_
 refine rM (En M1) (Gm.inst M1 M0 A2B rfl) Evs.nil rfl ?_
 refine B1V hdp (up1 hk rfl) M1 M0 (by fail "c1") (by fail "c1") ?_
 refine A1B ?_
 refine A1U ?_
 refine A7m (Evs.cons (En M2) (Evs.cons (En M3) (Evs.cons (En M4) Evs.nil))) ?_
 refine A0q (by fail "c3") fun _ => ?_
 have e : List.take L.toNat (List.drop ((0 + 1 + 1 : Int).toNat + 1) (N :: 1 :: L :: rep)) = rep := by
  rw [hL]
  exact List.take_length
 rw [e]
 fail "k"
 exact A2a (by exact Sub.cons E0 (Sub.skip (Sub.skip Sub.refl))) (q _ _ _)
theorem B0L {a b c d e f : Value} (hd : Low Γ k) (hk : k ≤ 590) (q : ∀ x xd, Q (.ref x) vs ((xd, .flds [("kind", a), ("client", b), ("number", c), ("key", d), ("value", e), ("expect", f)]) :: (x, .inst 873 xd) :: led)) :
  Run Γ vs led (call (.ref 873) [a, b, c, d, e, f]) Q := by
 refine eM A1w B5L B6X rfl hd hk (fun x => [("self", some (.ref x)), ("kind", some (a)), ("client", some (b)), ("number", some (c)), ("key", some (d)), ("value", some (e)), ("expect", some (f))]) [] fun x d Γ' U hdp hwp => ?_
 refine A1x (En M1) rfl ?_
 refine A3i (En M0) M0 M1 A1w Snoc.nil rfl U1 A0h ?_
 refine A1x (En M2) rfl ?_
 refine A3i (En M0) M0 M1 A1w (Snoc.cons Snoc.nil) rfl U1 A0G ?_
 refine A1x (En M3) rfl ?_
 refine A3i (En M0) M0 M1 A1w (Snoc.cons (Snoc.cons Snoc.nil)) rfl U1 A0r ?_
 refine A1x (En M4) rfl ?_
 refine A3i (En M0) M0 M1 A1w (Snoc.cons (Snoc.cons (Snoc.cons Snoc.nil))) rfl U1 A0w ?_
 refine A1x (En M5) rfl ?_
 refine A3i (En M0) M0 M1 A1w (Snoc.cons (Snoc.cons (Snoc.cons (Snoc.cons Snoc.nil)))) rfl U1 A0M ?_
 refine A1x (En M6) rfl ?_
 refine A3i (En M0) M0 M1 A1w (Snoc.cons (Snoc.cons (Snoc.cons (Snoc.cons (Snoc.cons Snoc.nil))))) rfl U1 A0P ?_
 refine A0a ?_
 refine A0n ?_
 fail "kM"
 exact A6N (by exact Sub.cons E1 Sub.refl) (q _ _)
end
end Mine
namespace Mine
section
variable {Γ : Cx} {vs : A0e} {led R : Led} {Q : Value → A0e → Led → Prop} {k : Nat}
noncomputable abbrev A8o (a b c d e f : Value) : LObj := .flds [("kind", a), ("client", b), ("number", c), ("key", d), ("value", e), ("expect", f)]
theorem B3p {x xd : Addr} {a n : Int} {ky vl : Array UInt8} {t1 t2 t3 t4 t5 : Tok} (hd : Low Γ k) (hk : k ≤ 550) (hn : Γ.nd = true) (hx : (x, .inst 873 xd) ∈ led) (hf : (xd, A8o (.int a t1) (.int 9 t2) (.int n t3) (.bytes ky t4) (.bytes vl t5) .none) ∈ led)
  (h0 : 0 ≤ a) (h1 : a ≤ 6) (h2 : 0 ≤ n) (h3 : n < 128) (h4 : ky.size < 128) (h5 : vl.size < 128)
  (q : ∀ t, Q (.bytes ((((((#[].push a.toNat.toUInt8).push 9).push n.toNat.toUInt8) ++ #[ky.size.toUInt8] ++ ky) ++ #[vl.size.toUInt8] ++ vl).push 0) t) vs led) : Run Γ vs led (call (.ref 870) [.ref x]) Q := by
 refine eF B2x B2X rfl hd hk [("self", some (.ref x)), ("sink", none)] ["CMD_NONE", "CMD_CLOSE", "BadCommand", "Sink", "put_maybe", "BadOption"] fun Γ' U hdp hwp => ?_
 have hnp := U.nd.trans hn
 refine xIf ?_
 refine tOr ?_
 refine A0g (Ar.val (Ea M0 hx hf M0 A0h rfl)) (Ar.val (Eg A0Z (Cx.Under.gl U) M0)) rfl Ci.lt ?_
 refine A1D (by fail "c3") ?_
 refine tOr ?_
 refine A0g (Ar.val (Ea M0 hx hf M0 A0h rfl)) (Ar.val (Eg A0z (Cx.Under.gl U) M1)) rfl Ci.gt ?_
 refine A1D (by fail "c3") ?_
 refine A0W ?_
 refine A0R rfl ?_
 refine A0a ?_
 refine xAs rfl ?_
 refine rC (Eg A5e (Cx.Under.gl U) M3) (Callee.fn (Cls.keeps A4a)) Evs.nil ?_
 refine A9D hdp (up1 hk rfl) hnp fun _ _ _ => ?_
 refine kAs V1 ?_
 refine A7S ?_
 refine A1A rfl ?_
 refine rM (En M1) (Gm.inst M1 M2 A1h rfl) (Evs.cons (Ea M0 (N3 hx) (N3 hf) M0 A0h rfl) Evs.nil) rfl ?_
 refine A7d hdp (up1 hk rfl) hnp (Pick.cons E0 Pick.nil) M0 M1 h0 (by omega) (by decide) ?_
 refine A1B ?_
 refine A1A rfl ?_
 refine rM (En M1) (Gm.inst M1 M2 A1h rfl) (Evs.cons (Ea M0 (N3 hx) (N3 hf) M1 A0G rfl) Evs.nil) rfl ?_
 refine A7d hdp (up1 hk rfl) hnp (Pick.cons E0 Pick.nil) M0 M1 (by decide) (by decide) (by fail "c1") ?_
 refine A1B ?_
 refine A1A rfl ?_
 refine rM (En M1) (Gm.inst M1 M2 A1h rfl) (Evs.cons (Ea M0 (N3 hx) (N3 hf) M2 A0r rfl) Evs.nil) rfl ?_
 refine A7d hdp (up1 hk rfl) hnp (Pick.cons E0 Pick.nil) M0 M1 h2 h3 (by fail "c1") ?_
 refine A1B ?_
 refine A1A rfl ?_
 refine rM (En M1) (Gm.inst M1 M2 A1l rfl) (Evs.cons (Ea M0 (N3 hx) (N3 hf) M3 A0w rfl) Evs.nil) rfl ?_
 refine A8r hdp (up1 hk rfl) hnp (Pick.cons E0 Pick.nil) M0 M1 (by fail "c1") h4 ?_
 refine A1B ?_
 refine A1A rfl ?_
 refine rM (En M1) (Gm.inst M1 M2 A1l rfl) (Evs.cons (Ea M0 (N3 hx) (N3 hf) M4 A0M rfl) Evs.nil) rfl ?_
 refine A8r hdp (up1 hk rfl) hnp (Pick.cons E0 Pick.nil) M0 M1 (by fail "c1") h5 ?_
 refine A1B ?_
 refine A1A rfl ?_
 refine rC (Eg A3n (Cx.Under.gl U) M4) (Callee.fn A8O) (Evs.cons (En M1) (Evs.cons (Ea M0 (N3 hx) (N3 hf) M5 A0P rfl) Evs.nil)) ?_
 refine B3o hdp (up1 hk rfl) hnp (Pick.cons E0 Pick.nil) M0 M1 (by fail "c1") ?_
 refine A1B ?_
 refine A0a ?_
 refine A0n ?_
 refine A0a ?_
 refine A1U ?_
 refine rM (En M1) (Gm.inst M1 M2 A2j rfl) Evs.nil rfl ?_
 refine A9E hdp (up1 hk rfl) M1 M2 M0 (by fail "c1") fun _ => ?_
 fail "k"
 exact A2a (by exact Sub.skip (Sub.skip (Sub.skip Sub.refl))) (q _)
theorem B7M {x xd : Addr} {a n : Int} {ky vl ex : Array UInt8} {t1 t2 t3 t4 t5 t6 : Tok} (hd : Low Γ k) (hk : k ≤ 550) (hn : Γ.nd = true) (hx : (x, .inst 873 xd) ∈ led) (hf : (xd, A8o (.int a t1) (.int 9 t2) (.int n t3) (.bytes ky t4) (.bytes vl t5) (.bytes ex t6)) ∈ led)
  (h0 : 0 ≤ a) (h1 : a ≤ 6) (h2 : 0 ≤ n) (h3 : n < 128) (h4 : ky.size < 128) (h5 : vl.size < 128) (h6 : ex.size < 128)
  (q : ∀ t, Q (.bytes ((((((#[].push a.toNat.toUInt8).push 9).push n.toNat.toUInt8) ++ #[ky.size.toUInt8] ++ ky) ++ #[vl.size.toUInt8] ++ vl).push 1 ++ #[ex.size.toUInt8] ++ ex) t) vs led) : Run Γ vs led (call (.ref 870) [.ref x]) Q := by
 refine eF B2x B2X rfl hd hk [("self", some (.ref x)), ("sink", none)] ["CMD_NONE", "CMD_CLOSE", "BadCommand", "Sink", "put_maybe", "BadOption"] fun Γ' U hdp hwp => ?_
 have hnp := U.nd.trans hn
 refine xIf ?_
 refine tOr ?_
 refine A0g (Ar.val (Ea M0 hx hf M0 A0h rfl)) (Ar.val (Eg A0Z (Cx.Under.gl U) M0)) rfl Ci.lt ?_
 refine A1D (by fail "c3") ?_
 refine tOr ?_
 refine A0g (Ar.val (Ea M0 hx hf M0 A0h rfl)) (Ar.val (Eg A0z (Cx.Under.gl U) M1)) rfl Ci.gt ?_
 refine A1D (by fail "c3") ?_
 refine A0W ?_
 refine A0R rfl ?_
 refine A0a ?_
 refine xAs rfl ?_
 refine rC (Eg A5e (Cx.Under.gl U) M3) (Callee.fn (Cls.keeps A4a)) Evs.nil ?_
 refine A9D hdp (up1 hk rfl) hnp fun _ _ _ => ?_
 refine kAs V1 ?_
 refine A7S ?_
 refine A1A rfl ?_
 refine rM (En M1) (Gm.inst M1 M2 A1h rfl) (Evs.cons (Ea M0 (N3 hx) (N3 hf) M0 A0h rfl) Evs.nil) rfl ?_
 refine A7d hdp (up1 hk rfl) hnp (Pick.cons E0 Pick.nil) M0 M1 h0 (by omega) (by decide) ?_
 refine A1B ?_
 refine A1A rfl ?_
 refine rM (En M1) (Gm.inst M1 M2 A1h rfl) (Evs.cons (Ea M0 (N3 hx) (N3 hf) M1 A0G rfl) Evs.nil) rfl ?_
 refine A7d hdp (up1 hk rfl) hnp (Pick.cons E0 Pick.nil) M0 M1 (by decide) (by decide) (by fail "c1") ?_
 refine A1B ?_
 refine A1A rfl ?_
 refine rM (En M1) (Gm.inst M1 M2 A1h rfl) (Evs.cons (Ea M0 (N3 hx) (N3 hf) M2 A0r rfl) Evs.nil) rfl ?_
 refine A7d hdp (up1 hk rfl) hnp (Pick.cons E0 Pick.nil) M0 M1 h2 h3 (by fail "c1") ?_
 refine A1B ?_
 refine A1A rfl ?_
 refine rM (En M1) (Gm.inst M1 M2 A1l rfl) (Evs.cons (Ea M0 (N3 hx) (N3 hf) M3 A0w rfl) Evs.nil) rfl ?_
 refine A8r hdp (up1 hk rfl) hnp (Pick.cons E0 Pick.nil) M0 M1 (by fail "c1") h4 ?_
 refine A1B ?_
 refine A1A rfl ?_
 refine rM (En M1) (Gm.inst M1 M2 A1l rfl) (Evs.cons (Ea M0 (N3 hx) (N3 hf) M4 A0M rfl) Evs.nil) rfl ?_
 refine A8r hdp (up1 hk rfl) hnp (Pick.cons E0 Pick.nil) M0 M1 (by fail "c1") h5 ?_
 refine A1B ?_
 refine A1A rfl ?_
 refine rC (Eg A3n (Cx.Under.gl U) M4) (Callee.fn A8O) (Evs.cons (En M1) (Evs.cons (Ea M0 (N3 hx) (N3 hf) M5 A0P rfl) Evs.nil)) ?_
 refine B3n hdp (up1 hk rfl) hnp (Pick.cons E0 Pick.nil) M0 M1 (by fail "c1") h6 ?_
 refine A1B ?_
 refine A0a ?_
 refine A0n ?_
 refine A0a ?_
 refine A1U ?_
 refine rM (En M1) (Gm.inst M1 M2 A2j rfl) Evs.nil rfl ?_
 refine A9E hdp (up1 hk rfl) M1 M2 M0 (by fail "c1") fun _ => ?_
 fail "k"
 exact A2a (by exact Sub.skip (Sub.skip (Sub.skip Sub.refl))) (q _)
theorem B7K {N : UInt8} {t : Tok} (hd : Low Γ k) (hk : k ≤ 550) (h0 : N.toNat < 128)
  (q : ∀ c cd t1 t2 t3 t4 t5, Q (.ref c) vs ((cd, A8o (.int 5 t1) (.int 9 t2) (.int N.toNat t3) (.bytes #[] t4) (.bytes #[] t5) .none) :: (c, .inst 873 cd) :: led)) : Run Γ vs led (call (.ref 898) [.bytes [5, 9, N, 0, 0, 0].toArray t]) Q := by
 refine eF B0b B0D rfl hd hk [("data", some (.bytes [5, 9, N, 0, 0, 0].toArray t)), ("cursor", none), ("kind", none), ("client", none), ("number", none), ("key", none), ("value", none), ("expect", none)] ["Cursor", "take_maybe", "Corrupt", "BadCommand", "CMD_CLOSE", "Command"] fun Γ' U hdp hwp => ?_
 refine A7S ?_
 refine xAs rfl ?_
 refine rC (Eg A4Q (Cx.Under.gl U) M0) (Callee.fn (Cls.keeps A2H)) (Evs.cons (En M0) Evs.nil) ?_
 refine B1U hdp (up1 hk rfl) (by fail "c1") fun _ _ _ => ?_
 refine kAs V1 ?_
 refine xAs rfl ?_
 refine rM (En M1) (Gm.inst M1 M0 A0J rfl) Evs.nil rfl ?_
 refine A6m hdp (up1 hk rfl) (Pick.cons E0 Pick.nil) M0 rfl (by decide) (by decide) (by fail "c1") fun _ _ => ?_
 refine kAs V2 ?_
 refine xAs rfl ?_
 refine rM (En M1) (Gm.inst M1 M0 A0J rfl) Evs.nil rfl ?_
 refine A6m hdp (up1 hk rfl) (Pick.cons E0 Pick.nil) M0 rfl (by decide) (by decide) (by fail "c1") fun _ _ => ?_
 refine kAs V3 ?_
 refine xAs rfl ?_
 refine rM (En M1) (Gm.inst M1 M0 A0J rfl) Evs.nil rfl ?_
 refine A6m hdp (up1 hk rfl) (Pick.cons E0 Pick.nil) M0 rfl (by decide) h0 (by fail "c1") fun _ _ => ?_
 refine kAs V4 ?_
 refine xAs rfl ?_
 refine rM (En M1) (Gm.inst M1 M0 A0O rfl) Evs.nil rfl ?_
 refine A7M hdp (up1 hk rfl) (Pick.cons E0 Pick.nil) M0 rfl (by decide) (by decide) (by fail "c1") rfl (by fail "c3") fun _ _ => ?_
 refine kAs V5 ?_
 refine xAs rfl ?_
 refine rM (En M1) (Gm.inst M1 M0 A0O rfl) Evs.nil rfl ?_
 refine A7M hdp (up1 hk rfl) (Pick.cons E0 Pick.nil) M0 rfl (by decide) (by decide) (by fail "c1") rfl (by fail "c3") fun _ _ => ?_
 refine kAs V6 ?_
 refine xAs rfl ?_
 refine rC (Eg A3G (Cx.Under.gl U) M1) (Callee.fn B0n) (Evs.cons (En M1) Evs.nil) ?_
 refine B3m hdp (up1 hk rfl) (Pick.cons E0 Pick.nil) M0 rfl (by decide) (by fail "c1") fun _ => ?_
 refine kAs V7 ?_
 refine A1A rfl ?_
 refine rM (En M1) (Gm.inst M1 M0 A2B rfl) Evs.nil rfl ?_
 refine B1V hdp (up1 hk rfl) M1 M0 rfl (by fail "c1") ?_
 refine A1B ?_
 refine A0a ?_
 refine A0n ?_
 refine A0a ?_
 refine xIf ?_
 refine A0g (Ar.val (En M2)) (Ar.val (Eg A0z (Cx.Under.gl U) M4)) rfl Ci.gt ?_
 refine A0R rfl ?_
 refine A0a ?_
 refine A1U ?_
 refine rC (Eg A3A (Cx.Under.gl U) M5) (Callee.fn (Cls.keeps A1w)) (Evs.cons (En M2) (Evs.cons (En M3) (Evs.cons (En M4) (Evs.cons (En M5) (Evs.cons (En M6) (Evs.cons (En M7) Evs.nil)))))) ?_
 refine B0L hdp (up1 hk rfl) fun _ _ => ?_
 fail "k"
 exact A2a (by exact Sub.cons Ex.head (Sub.cons Ex.head (Sub.skip (Sub.skip Sub.refl)))) (q _ _ _ _ _ _ _)
theorem B7J {K N W : UInt8} {t : Tok} (hd : Low Γ k) (hk : k ≤ 550) (h0 : N.toNat < 128) (h1 : K.toNat ≤ 6)
  (q : ∀ c cd t1 t2 t3 t4 t5, Q (.ref c) vs ((cd, A8o (.int K.toNat t1) (.int 9 t2) (.int N.toNat t3) (.bytes #[107] t4) (.bytes #[W] t5) .none) :: (c, .inst 873 cd) :: led)) : Run Γ vs led (call (.ref 898) [.bytes [K, 9, N, 1, 107, 1, W, 0].toArray t]) Q := by
 refine eF B0b B0D rfl hd hk [("data", some (.bytes [K, 9, N, 1, 107, 1, W, 0].toArray t)), ("cursor", none), ("kind", none), ("client", none), ("number", none), ("key", none), ("value", none), ("expect", none)] ["Cursor", "take_maybe", "Corrupt", "BadCommand", "CMD_CLOSE", "Command"] fun Γ' U hdp hwp => ?_
 refine A7S ?_
 refine xAs rfl ?_
 refine rC (Eg A4Q (Cx.Under.gl U) M0) (Callee.fn (Cls.keeps A2H)) (Evs.cons (En M0) Evs.nil) ?_
 refine B1U hdp (up1 hk rfl) (by fail "c1") fun _ _ _ => ?_
 refine kAs V1 ?_
 refine xAs rfl ?_
 refine rM (En M1) (Gm.inst M1 M0 A0J rfl) Evs.nil rfl ?_
 refine A6m hdp (up1 hk rfl) (Pick.cons E0 Pick.nil) M0 rfl (by decide) (by omega) (by fail "c1") fun _ _ => ?_
 refine kAs V2 ?_
 refine xAs rfl ?_
 refine rM (En M1) (Gm.inst M1 M0 A0J rfl) Evs.nil rfl ?_
 refine A6m hdp (up1 hk rfl) (Pick.cons E0 Pick.nil) M0 rfl (by decide) (by decide) (by fail "c1") fun _ _ => ?_
 refine kAs V3 ?_
 refine xAs rfl ?_
 refine rM (En M1) (Gm.inst M1 M0 A0J rfl) Evs.nil rfl ?_
 refine A6m hdp (up1 hk rfl) (Pick.cons E0 Pick.nil) M0 rfl (by decide) h0 (by fail "c1") fun _ _ => ?_
 refine kAs V4 ?_
 refine xAs rfl ?_
 refine rM (En M1) (Gm.inst M1 M0 A0O rfl) Evs.nil rfl ?_
 refine A7M hdp (up1 hk rfl) (Pick.cons E0 Pick.nil) M0 rfl (by decide) (by decide) (by fail "c1") rfl (by fail "c3") fun _ _ => ?_
 refine kAs V5 ?_
 refine xAs rfl ?_
 refine rM (En M1) (Gm.inst M1 M0 A0O rfl) Evs.nil rfl ?_
 refine A7M hdp (up1 hk rfl) (Pick.cons E0 Pick.nil) M0 rfl (by decide) (by decide) (by fail "c1") rfl (by fail "c3") fun _ _ => ?_
 refine kAs V6 ?_
 refine xAs rfl ?_
 refine rC (Eg A3G (Cx.Under.gl U) M1) (Callee.fn B0n) (Evs.cons (En M1) Evs.nil) ?_
 refine B3m hdp (up1 hk rfl) (Pick.cons E0 Pick.nil) M0 rfl (by decide) (by fail "c1") fun _ => ?_
 refine kAs V7 ?_
 refine A1A rfl ?_
 refine rM (En M1) (Gm.inst M1 M0 A2B rfl) Evs.nil rfl ?_
 refine B1V hdp (up1 hk rfl) M1 M0 rfl (by fail "c1") ?_
 refine A1B ?_
 refine A0a ?_
 refine A0n ?_
 refine A0a ?_
 refine xIf ?_
 refine A0g (Ar.val (En M2)) (Ar.val (Eg A0z (Cx.Under.gl U) M4)) rfl Ci.gt ?_
 refine A0R (by fail "c3") ?_
 refine A0a ?_
 refine A1U ?_
 refine rC (Eg A3A (Cx.Under.gl U) M5) (Callee.fn (Cls.keeps A1w)) (Evs.cons (En M2) (Evs.cons (En M3) (Evs.cons (En M4) (Evs.cons (En M5) (Evs.cons (En M6) (Evs.cons (En M7) Evs.nil)))))) ?_
 refine B0L hdp (up1 hk rfl) fun _ _ => ?_
 fail "k"
 exact A2a (by exact Sub.cons Ex.head (Sub.cons Ex.head (Sub.skip (Sub.skip Sub.refl)))) (q _ _ _ _ _ _ _)
theorem B7I {K N W : UInt8} {t : Tok} (hd : Low Γ k) (hk : k ≤ 550) (h0 : N.toNat < 128) (h1 : K.toNat ≤ 6)
  (q : ∀ c cd t1 t2 t3 t4 t5 t6, Q (.ref c) vs ((cd, A8o (.int K.toNat t1) (.int 9 t2) (.int N.toNat t3) (.bytes #[107] t4) (.bytes #[W] t5) (.bytes #[98] t6)) :: (c, .inst 873 cd) :: led)) : Run Γ vs led (call (.ref 898) [.bytes [K, 9, N, 1, 107, 1, W, 1, 1, 98].toArray t]) Q := by
 refine eF B0b B0D rfl hd hk [("data", some (.bytes [K, 9, N, 1, 107, 1, W, 1, 1, 98].toArray t)), ("cursor", none), ("kind", none), ("client", none), ("number", none), ("key", none), ("value", none), ("expect", none)] ["Cursor", "take_maybe", "Corrupt", "BadCommand", "CMD_CLOSE", "Command"] fun Γ' U hdp hwp => ?_
 refine A7S ?_
 refine xAs rfl ?_
 refine rC (Eg A4Q (Cx.Under.gl U) M0) (Callee.fn (Cls.keeps A2H)) (Evs.cons (En M0) Evs.nil) ?_
 refine B1U hdp (up1 hk rfl) (by fail "c1") fun _ _ _ => ?_
 refine kAs V1 ?_
 refine xAs rfl ?_
 refine rM (En M1) (Gm.inst M1 M0 A0J rfl) Evs.nil rfl ?_
 refine A6m hdp (up1 hk rfl) (Pick.cons E0 Pick.nil) M0 rfl (by decide) (by omega) (by fail "c1") fun _ _ => ?_
 refine kAs V2 ?_
 refine xAs rfl ?_
 refine rM (En M1) (Gm.inst M1 M0 A0J rfl) Evs.nil rfl ?_
 refine A6m hdp (up1 hk rfl) (Pick.cons E0 Pick.nil) M0 rfl (by decide) (by decide) (by fail "c1") fun _ _ => ?_
 refine kAs V3 ?_
 refine xAs rfl ?_
 refine rM (En M1) (Gm.inst M1 M0 A0J rfl) Evs.nil rfl ?_
 refine A6m hdp (up1 hk rfl) (Pick.cons E0 Pick.nil) M0 rfl (by decide) h0 (by fail "c1") fun _ _ => ?_
 refine kAs V4 ?_
 refine xAs rfl ?_
 refine rM (En M1) (Gm.inst M1 M0 A0O rfl) Evs.nil rfl ?_
 refine A7M hdp (up1 hk rfl) (Pick.cons E0 Pick.nil) M0 rfl (by decide) (by decide) (by fail "c1") rfl (by fail "c3") fun _ _ => ?_
 refine kAs V5 ?_
 refine xAs rfl ?_
 refine rM (En M1) (Gm.inst M1 M0 A0O rfl) Evs.nil rfl ?_
 refine A7M hdp (up1 hk rfl) (Pick.cons E0 Pick.nil) M0 rfl (by decide) (by decide) (by fail "c1") rfl (by fail "c3") fun _ _ => ?_
 refine kAs V6 ?_
 refine xAs rfl ?_
 refine rC (Eg A3G (Cx.Under.gl U) M1) (Callee.fn B0n) (Evs.cons (En M1) Evs.nil) ?_
 refine B7L hdp (up1 hk rfl) (Pick.cons E0 Pick.nil) M0 rfl rfl (by decide) (by decide) (by fail "c1") rfl (by fail "c3") fun _ _ => ?_
 refine kAs V7 ?_
 refine A1A rfl ?_
 refine rM (En M1) (Gm.inst M1 M0 A2B rfl) Evs.nil rfl ?_
 refine B1V hdp (up1 hk rfl) M1 M0 rfl (by fail "c1") ?_
 refine A1B ?_
 refine A0a ?_
 refine A0n ?_
 refine A0a ?_
 refine xIf ?_
 refine A0g (Ar.val (En M2)) (Ar.val (Eg A0z (Cx.Under.gl U) M4)) rfl Ci.gt ?_
 refine A0R (by fail "c3") ?_
 refine A0a ?_
 refine A1U ?_
 refine rC (Eg A3A (Cx.Under.gl U) M5) (Callee.fn (Cls.keeps A1w)) (Evs.cons (En M2) (Evs.cons (En M3) (Evs.cons (En M4) (Evs.cons (En M5) (Evs.cons (En M6) (Evs.cons (En M7) Evs.nil)))))) ?_
 refine B0L hdp (up1 hk rfl) fun _ _ => ?_
 fail "k"
 exact A2a (by exact Sub.cons Ex.head (Sub.cons Ex.head (Sub.skip (Sub.skip Sub.refl)))) (q _ _ _ _ _ _ _ _)
end
end Mine
namespace Mine
section
variable {Γ : Cx} {vs : A0e} {led R : Led} {Q : Value → A0e → Led → Prop} {k : Nat}
noncomputable abbrev A9H (a b c d : Value) : LObj := .flds [("term", a), ("index", b), ("kind", c), ("data", d)]
noncomputable abbrev B2s (a b c d e f g h i j l m : Value) : LObj := .flds [("kind", a), ("to", b), ("frm", c), ("term", d), ("log_term", e), ("index", f), ("entries", g), ("commit", h), ("snapshot", i), ("reject", j), ("reject_hint", l), ("context", m)]
theorem B4y {a b c d : Value} (hd : Low Γ k) (hk : k ≤ 590) (q : ∀ x xd, Q (.ref x) vs ((xd, A9H a b c d) :: (x, .inst 435 xd) :: led)) :
  Run Γ vs led (call (.ref 435) [a, b, c, d]) Q := by
 refine eM A3q B6b B7n rfl hd hk (fun x => [("self", some (.ref x)), ("term", some (a)), ("index", some (b)), ("kind", some (c)), ("data", some (d))]) [] fun x d Γ' U hdp hwp => ?_
 refine A1x (En M1) rfl ?_
 refine A3i (En M0) M0 M1 A3q Snoc.nil rfl U1 A2D ?_
 refine A1x (En M2) rfl ?_
 refine A3i (En M0) M0 M1 A3q (Snoc.cons Snoc.nil) rfl U1 A1T ?_
 refine A1x (En M3) rfl ?_
 refine A3i (En M0) M0 M1 A3q (Snoc.cons (Snoc.cons Snoc.nil)) rfl U1 A2d ?_
 refine A1x (En M4) rfl ?_
 refine A3i (En M0) M0 M1 A3q (Snoc.cons (Snoc.cons (Snoc.cons Snoc.nil))) rfl U1 A1i ?_
 refine A0a ?_
 refine A0n ?_
 fail "kM"
 exact A6N (by exact Sub.cons E1 Sub.refl) (q _ _)
theorem B9Y {x xd : Addr} {a b c d : Value} (hd : Low Γ k) (hk : k ≤ 580) (hx : (x, .inst 435 xd) ∈ led) (hf : (xd, A9H a b c d) ∈ led) (ha : handedIn a = true) (hb : handedIn b = true) (hc : handedIn c = true) (hdd : handedIn d = true) (q : ∀ x xd, Q (.ref x) vs ((xd, A9H a b c d) :: (x, .inst 435 xd) :: led)) :
  Run Γ vs led (call (.ref 418) [.ref x]) Q := by
 refine eF B6a B7m rfl hd hk [("self", some (.ref x))] ["Entry"] fun Γ' U hdp hwp => ?_
 refine A1U ?_
 refine rC (Eg A6U (Cx.Under.gl U) M0) (Callee.fn (Cls.keeps A3q)) (Evs.cons (Ea M0 hx hf M0 A2D ha) (Evs.cons (Ea M0 hx hf M1 A1T hb) (Evs.cons (Ea M0 hx hf M2 A2d hc) (Evs.cons (Ea M0 hx hf M3 A1i hdd) Evs.nil)))) ?_
 refine B4y hdp (up1 hk rfl) fun _ _ => ?_
 fail "k"
 exact A2a (by exact Sub.refl) (q _ _)
theorem B1T {a b c d : Value} (hd : Low Γ k) (hk : k ≤ 590) (q : ∀ x xd el t1 t2 t3 t4 t5, Q (.ref x) vs ((el, .list []) :: (xd, B2s a b c d (.int 0 t1) (.int 0 t2) (.ref el) (.int 0 t3) .none (.bool false) (.int 0 t4) (.bytes #[] t5)) :: (x, .inst 599 xd) :: led)) :
  Run Γ vs led (call (.ref 599) [a, b, c, d]) Q := by
 refine eM A0S B5Z B7l rfl hd hk (fun x => [("self", some (.ref x)), ("kind", some (a)), ("to", some (b)), ("frm", some (c)), ("term", some (d))]) [] fun x d Γ' U hdp hwp => ?_
 refine A1x (En M1) rfl ?_
 refine A3i (En M0) M0 M1 A0S Snoc.nil rfl U1 A2N ?_
 refine A1x (En M2) rfl ?_
 refine A3i (En M0) M0 M1 A0S (Snoc.cons Snoc.nil) rfl U1 A0C ?_
 refine A1x (En M3) rfl ?_
 refine A3i (En M0) M0 M1 A0S (Snoc.cons (Snoc.cons Snoc.nil)) rfl U1 A1t ?_
 refine A1x (En M4) rfl ?_
 refine A3i (En M0) M0 M1 A0S (Snoc.cons (Snoc.cons (Snoc.cons Snoc.nil))) rfl U1 A2M ?_
 refine A4n rfl ?_
 refine rAr Ar.con fun _ => ?_
 refine A3i (En M0) M0 M1 A0S (Snoc.cons (Snoc.cons (Snoc.cons (Snoc.cons Snoc.nil)))) rfl U1 A1o ?_
 refine A4n rfl ?_
 refine rAr Ar.con fun _ => ?_
 refine A3i (En M0) M0 M1 A0S (Snoc.cons (Snoc.cons (Snoc.cons (Snoc.cons (Snoc.cons Snoc.nil))))) rfl U1 A0l ?_
 refine A4n rfl ?_
 refine A3r Evs.nil ?_
 refine A0o (by decide) fun _ => ?_
 refine A3i (En M0) M1 M2 A0S (Snoc.cons (Snoc.cons (Snoc.cons (Snoc.cons (Snoc.cons (Snoc.cons Snoc.nil)))))) rfl U2 A0X ?_
 refine A4n rfl ?_
 refine rAr Ar.con fun _ => ?_
 refine A3i (En M0) M1 M2 A0S (Snoc.cons (Snoc.cons (Snoc.cons (Snoc.cons (Snoc.cons (Snoc.cons (Snoc.cons Snoc.nil))))))) rfl U2 A1z ?_
 refine A1x Eo rfl ?_
 refine A3i (En M0) M1 M2 A0S (Snoc.cons (Snoc.cons (Snoc.cons (Snoc.cons (Snoc.cons (Snoc.cons (Snoc.cons (Snoc.cons Snoc.nil)))))))) rfl U2 A2c ?_
 refine A1x Et rfl ?_
 refine A3i (En M0) M1 M2 A0S (Snoc.cons (Snoc.cons (Snoc.cons (Snoc.cons (Snoc.cons (Snoc.cons (Snoc.cons (Snoc.cons (Snoc.cons Snoc.nil))))))))) rfl U2 A1y ?_
 refine A4n rfl ?_
 refine rAr Ar.con fun _ => ?_
 refine A3i (En M0) M1 M2 A0S (Snoc.cons (Snoc.cons (Snoc.cons (Snoc.cons (Snoc.cons (Snoc.cons (Snoc.cons (Snoc.cons (Snoc.cons (Snoc.cons Snoc.nil)))))))))) rfl U2 A1a ?_
 refine A4n rfl ?_
 refine A1I fun _ => ?_
 refine A3i (En M0) M1 M2 A0S (Snoc.cons (Snoc.cons (Snoc.cons (Snoc.cons (Snoc.cons (Snoc.cons (Snoc.cons (Snoc.cons (Snoc.cons (Snoc.cons (Snoc.cons Snoc.nil))))))))))) rfl U2 A0x ?_
 refine A0a ?_
 refine A0n ?_
 fail "kM"
 exact A6N (by exact Sub.cons E0 (Sub.cons E1 Sub.refl)) (q _ _ _ _ _ _ _ _)
theorem A8W {a b : Option (Array UInt8)} {t u : Tok} (hd : Low Γ k) (hk : k ≤ 590) (q : Q (.bool (decide (a = b))) vs led) : Run Γ vs led (call (.ref 1066) [ob a t, ob b u]) Q := by
 cases a <;> cases b
 ·show Run Γ vs led (call (.ref 1066) [.none, .none]) Q
  refine eF A6K A6Z rfl hd hk [("a", some (.none)), ("b", some (.none))] [] fun Γ' U hdp hwp => ?_
  refine xIf ?_
  refine tOr ?_
  refine A1K (En M0) Eo rfl Cm.isNN ?_
  refine A3N rfl ?_
  refine A2s rfl ?_
  refine A1U ?_
  refine A7Z ?_
  refine A3O (En M0) Eo rfl ?_
  refine rCm Cm.isNN ?_
  refine A0c ?_
  refine A3N rfl ?_
  refine A4e ?_
  refine A3O (En M1) Eo rfl ?_
  refine rCm Cm.isNN ?_
  fail "k"
  exact A2a (by exact Sub.refl) (q)
 ·rename_i b
  show Run Γ vs led (call (.ref 1066) [.none, .bytes b u]) Q
  refine eF A6K A6Z rfl hd hk [("a", some (.none)), ("b", some (.bytes b u))] [] fun Γ' U hdp hwp => ?_
  refine xIf ?_
  refine tOr ?_
  refine A1K (En M0) Eo rfl Cm.isNN ?_
  refine A3N rfl ?_
  refine A2s rfl ?_
  refine A1U ?_
  refine A7Z ?_
  refine A3O (En M0) Eo rfl ?_
  refine rCm Cm.isNN ?_
  refine A0c ?_
  refine A3N rfl ?_
  refine A4e ?_
  refine A3O (En M1) Eo rfl ?_
  refine rCm (Cm.isN (fun e => Value.noConfusion e)) ?_
  fail "k"
  exact A2a (by exact Sub.refl) (q)
 ·rename_i a
  show Run Γ vs led (call (.ref 1066) [.bytes a t, .none]) Q
  refine eF A6K A6Z rfl hd hk [("a", some (.bytes a t)), ("b", some (.none))] [] fun Γ' U hdp hwp => ?_
  refine xIf ?_
  refine tOr ?_
  refine A1K (En M0) Eo rfl (Cm.isN (fun e => Value.noConfusion e)) ?_
  refine A1D rfl ?_
  refine tOr ?_
  refine A1K (En M1) Eo rfl Cm.isNN ?_
  refine A3N rfl ?_
  refine A2s rfl ?_
  refine A1U ?_
  refine A7Z ?_
  refine A3O (En M0) Eo rfl ?_
  refine rCm (Cm.isN (fun e => Value.noConfusion e)) ?_
  refine A0c ?_
  refine A1D rfl ?_
  fail "k"
  exact A2a (by exact Sub.refl) (q)
 ·rename_i a b
  show Run Γ vs led (call (.ref 1066) [.bytes a t, .bytes b u]) Q
  refine eF A6K A6Z rfl hd hk [("a", some (.bytes a t)), ("b", some (.bytes b u))] [] fun Γ' U hdp hwp => ?_
  refine xIf ?_
  refine tOr ?_
  refine A1K (En M0) Eo rfl (Cm.isN (fun e => Value.noConfusion e)) ?_
  refine A1D rfl ?_
  refine tOr ?_
  refine A1K (En M1) Eo rfl (Cm.isN (fun e => Value.noConfusion e)) ?_
  refine A1D rfl ?_
  refine A0W ?_
  refine A0R rfl ?_
  refine A0a ?_
  refine A1U ?_
  refine A3O (En M0) (En M1) rfl ?_
  refine rCm Cm.eqB ?_
  have e : decide (a = b) = decide (some a = some b) := by simp
  rw [e]
  fail "k"
  exact A2a (by exact Sub.refl) (q)
theorem B7X (hd : Low Γ k) (hk : k ≤ 590) (q : ∀ l t1 t2 t3 t4, Q (.ref l) vs ((l, .list [.int 4 t1, .int 1 t2, .int 3 t3, .int 2 t4]) :: led)) : Run Γ vs led (call (.ref 1143) []) Q := by
 refine eF B3S B4p rfl hd hk [] [] fun Γ' U hdp hwp => ?_
 refine A1U ?_
 refine A8D ?_
 refine A0k Ar.con fun _ => ?_
 refine A0k Ar.con fun _ => ?_
 refine A0k Ar.con fun _ => ?_
 refine A0k Ar.con fun _ => ?_
 refine A0d ?_
 refine A0o (by fail "c3") fun _ => ?_
 fail "k"
 exact A2a (by exact Sub.refl) (q _ _ _ _ _)
theorem B4G (hd : Low Γ k) (hk : k ≤ 590) (q : ∀ t, Q (.bytes #[0] t) vs led) : Run Γ vs led (call (.ref 1157) [.none]) Q := by
 refine eF B0c B0E rfl hd hk [("word", some (.none))] ["bytes", "len"] fun Γ' U hdp hwp => ?_
 refine xIf ?_
 refine A1K (En M0) Eo rfl Cm.isNN ?_
 refine A2s rfl ?_
 refine A1U ?_
 refine A1I fun _ => ?_
 fail "k"
 exact A2a (by exact Sub.refl) (q _)
theorem B4E {b : Array UInt8} {t : Tok} (hd : Low Γ k) (hk : k ≤ 590) (hz : b.size < 128) (q : ∀ t, Q (.bytes (#[1, b.size.toUInt8] ++ b) t) vs led) : Run Γ vs led (call (.ref 1157) [.bytes b t]) Q := by
 refine eF B0c B0E rfl hd hk [("word", some (.bytes b t))] ["bytes", "len"] fun Γ' U hdp hwp => ?_
 refine xIf ?_
 refine A1K (En M0) Eo rfl (Cm.isN (fun e => Value.noConfusion e)) ?_
 refine A0R rfl ?_
 refine A0a ?_
 refine A1U ?_
 refine A9Q ?_
 refine rC' (Eb A2f (Cx.Under.gl U) M0) Callee.ty rfl rfl ?_
 refine A0A rfl ?_
 refine A8D ?_
 refine A0k Ar.con fun _ => ?_
 refine A0k (Ar.len (Eb A1n (Cx.Under.gl U) M1) (En M0) (Ln.byt (by omega))) fun _ => ?_
 refine A0d ?_
 refine A0o (by fail "c3") fun _ => ?_
 refine A0d ?_
 refine A2z M0 (PyProof.Rows.IntsAre.cons _ _ (PyProof.Rows.IntsAre.cons _ _ PyProof.Rows.IntsAre.nil)) (by (simp only [List.mem_cons, List.not_mem_nil, or_false, forall_eq_or_imp, forall_eq]; omega)) (by fail "c1") fun _ => ?_
 refine rE (En M0) ?_
 refine B0Q (by fail "c1") fun _ => ?_
 fail "k"
 exact A2a (by exact Sub.skip Sub.refl) (q _)
end
end Mine
namespace Mine
inductive Msg where
 | req (num : Int) (data : List UInt8)
 | ans (num : Int) (ctx : List UInt8)
noncomputable def Msg.to : Msg → Int
 | .req _ _ => 1
 | .ans _ _ => 2
noncomputable def Msg.frm : Msg → Int
 | .req _ _ => 2
 | .ans _ _ => 1
noncomputable def ReqIn (R : Led) (m : Addr) (num : Int) (data : List UInt8) : Prop := ∃ md el e ed t1 t2 t3 t4 t5 t6 t7 t8 t9 u1 u2 u3 u4, (m, LObj.inst 599 md) ∈ R ∧
 (md, B2s (.int 2 t1) (.int 1 t2) (.int 2 t3) (.int 1 t4) (.int 0 t5) (.int num t6) (.ref el) (.int 0 t7) .none (.bool false) (.int 0 t8) (.bytes #[] t9)) ∈ R ∧ (el, LObj.list [.ref e]) ∈ R ∧ (e, LObj.inst 435 ed) ∈ R ∧ (ed, A9H (.int 0 u1) (.int num u2) (.int 0 u3) (.bytes data.toArray u4)) ∈ R
noncomputable def AnsIn (R : Led) (m : Addr) (num : Int) (ctx : List UInt8) : Prop := ∃ md el t1 t2 t3 t4 t5 t6 t7 t8 t9, (m, LObj.inst 599 md) ∈ R ∧
 (md, B2s (.int 4 t1) (.int 2 t2) (.int 1 t3) (.int 1 t4) (.int 0 t5) (.int num t6) (.ref el) (.int 0 t7) .none (.bool false) (.int 0 t8) (.bytes ctx.toArray t9)) ∈ R ∧ (el, LObj.list []) ∈ R
noncomputable def MsgIn (R : Led) (m : Addr) : Msg → Prop
 | .req num data => ReqIn R m num data
 | .ans num ctx => AnsIn R m num ctx
theorem ReqIn.mono {R R' : Led} {m : Addr} {num : Int} {data : List UInt8} (g : Grow R R') (h : ReqIn R m num data) : ReqIn R' m num data := by
 obtain ⟨md, el, e, ed, t1, t2, t3, t4, t5, t6, t7, t8, t9, u1, u2, u3, u4, a, b, c, d, f⟩ := h
 exact ⟨md, el, e, ed, t1, t2, t3, t4, t5, t6, t7, t8, t9, u1, u2, u3, u4, g _ a, g _ b, g _ c, g _ d, g _ f⟩
theorem AnsIn.mono {R R' : Led} {m : Addr} {num : Int} {ctx : List UInt8} (g : Grow R R') (h : AnsIn R m num ctx) : AnsIn R' m num ctx := by
 obtain ⟨md, el, t1, t2, t3, t4, t5, t6, t7, t8, t9, a, b, c⟩ := h
 exact ⟨md, el, t1, t2, t3, t4, t5, t6, t7, t8, t9, g _ a, g _ b, g _ c⟩
theorem MsgIn.mono {R R' : Led} {m : Addr} {M : Msg} (g : Grow R R') (h : MsgIn R m M) : MsgIn R' m M := by
 cases M with
 | req num data => exact ReqIn.mono g h
 | ans num ctx => exact AnsIn.mono g h
structure Row where
 num : Int
 msg : Msg
noncomputable def RowIn (R : Led) (v : Value) (row : Row) : Prop := ∃ r m t1 t2 t3, v = .ref r ∧ (r, LObj.tup [.int row.num t1, .int row.msg.to t2, .int row.msg.frm t3, .ref m]) ∈ R ∧ MsgIn R m row.msg
theorem RowIn.mkReq {R : Led} {r m : Addr} {num rn : Int} {data : List UInt8} {t1 t2 t3 : Tok} (h : (r, LObj.tup [.int num t1, .int 1 t2, .int 2 t3, .ref m]) ∈ R) (hm : ReqIn R m rn data) : RowIn R (.ref r) ⟨num, .req rn data⟩ := ⟨r, m, _, _, _, rfl, h, hm⟩
theorem RowIn.mkAns {R : Led} {r m : Addr} {num rn : Int} {ctx : List UInt8} {t1 t2 t3 : Tok} (h : (r, LObj.tup [.int num t1, .int 2 t2, .int 1 t3, .ref m]) ∈ R) (hm : AnsIn R m rn ctx) : RowIn R (.ref r) ⟨num, .ans rn ctx⟩ := ⟨r, m, _, _, _, rfl, h, hm⟩
theorem ReqIn.mk {R : Led} {m md el e ed : Addr} {num : Int} {data : List UInt8} {t1 t2 t3 t4 t5 t6 t7 t8 t9 u1 u2 u3 u4 : Tok} (h1 : (m, LObj.inst 599 md) ∈ R)
 (h2 : (md, B2s (.int 2 t1) (.int 1 t2) (.int 2 t3) (.int 1 t4) (.int 0 t5) (.int num t6) (.ref el) (.int 0 t7) .none (.bool false) (.int 0 t8) (.bytes #[] t9)) ∈ R) (h3 : (el, LObj.list [.ref e]) ∈ R) (h4 : (e, LObj.inst 435 ed) ∈ R) (h5 : (ed, A9H (.int 0 u1) (.int num u2) (.int 0 u3) (.bytes data.toArray u4)) ∈ R) : ReqIn R m num data :=
 ⟨md, el, e, ed, _, _, _, _, _, _, _, _, _, _, _, _, _, h1, h2, h3, h4, h5⟩
theorem AnsIn.mk {R : Led} {m md el : Addr} {num : Int} {ctx : List UInt8} {t1 t2 t3 t4 t5 t6 t7 t8 t9 : Tok} (h1 : (m, LObj.inst 599 md) ∈ R)
 (h2 : (md, B2s (.int 4 t1) (.int 2 t2) (.int 1 t3) (.int 1 t4) (.int 0 t5) (.int num t6) (.ref el) (.int 0 t7) .none (.bool false) (.int 0 t8) (.bytes ctx.toArray t9)) ∈ R) (h3 : (el, LObj.list []) ∈ R) : AnsIn R m num ctx :=
 ⟨md, el, _, _, _, _, _, _, _, _, _, h1, h2, h3⟩
theorem RowIn.mono {R R' : Led} {v : Value} {row : Row} (g : Grow R R') (h : RowIn R v row) : RowIn R' v row := by
 obtain ⟨r, m, t1, t2, t3, e, a, b⟩ := h
 exact ⟨r, m, t1, t2, t3, e, g _ a, b.mono g⟩
inductive RowsIn (R : Led) : List Value → List Row → Prop
 | nil : RowsIn R [] []
 | cons {v row vs rows} : RowIn R v row → RowsIn R vs rows → RowsIn R (v :: vs) (row :: rows)
theorem RowsIn.mono {R R' : Led} {vs : List Value} {rows : List Row} (g : Grow R R') (h : RowsIn R vs rows) : RowsIn R' vs rows := by
 induction h with
 | nil => exact .nil
 | cons a _ ih => exact .cons (a.mono g) ih
theorem RowsIn.app {R : Led} {a b : List Value} {x y : List Row} (h : RowsIn R a x) (h' : RowsIn R b y) : RowsIn R (a ++ b) (x ++ y) := by
 induction h with
 | nil => exact h'
 | cons c _ ih => exact .cons c ih
theorem RowsIn.one {R : Led} {v : Value} {row : Row} (h : RowIn R v row) : RowsIn R [v] [row] := .cons h .nil
theorem RowsIn.length {R : Led} {a : List Value} {x : List Row} (h : RowsIn R a x) : a.length = x.length := by
 induction h with
 | nil => rfl
 | cons _ _ ih => simp [ih]
theorem RowsIn.at {R : Led} {a : List Value} {x : List Row} (h : RowsIn R a x) : ∀ {i : Nat} {v : Value}, a[i]? = some v → ∃ row, x[i]? = some row ∧ RowIn R v row := by
 induction h with
 | nil => intro i v e; simp at e
 | cons c _ ih =>
  intro i v e
  cases i with
  | zero => simp at e; subst e; exact ⟨_, rfl, c⟩
  | succ i => simp at e; simpa using ih e
theorem RowsIn.erase {R : Led} {a : List Value} {x : List Row} (h : RowsIn R a x) : ∀ (i : Nat), RowsIn R (a.eraseIdx i) (x.eraseIdx i) := by
 induction h with
 | nil => intro i; simp; exact .nil
 | cons c h ih =>
  intro i
  cases i with
  | zero => exact h
  | succ i => exact .cons c (ih i)
section
variable {Γ : Cx} {vs : A0e} {led R : Led} {Q : Value → A0e → Led → Prop} {k : Nat}
theorem Low.off (h : Low Γ k) : Low Γ.off k := ⟨h.1, h.2, h.3⟩
theorem B0N {l : Addr} {xs : List Value} {ns : List Int} {i : Int} {t : Tok} (hd : Low Γ k) (hk : k ≤ 590) (hl : (l, .list xs) ∈ led) (hi : IntsAre xs ns) (hne : xs.length ≠ 0) (hz : xs.length ≤ 100) (q : ∀ d t, Q (.int d t) vs led) :
  Run Γ vs led (call (.ref 1150) [.ref l, .int i t]) Q := by
 have hpos : (0 : Int) < xs.length := by omega
 have h0 : 0 ≤ i.fmod xs.length := Int.fmod_nonneg_of_pos _ hpos
 have h1 : i.fmod xs.length < xs.length := Int.fmod_lt_of_pos _ hpos
 have hlt : (i.fmod xs.length).toNat < xs.length := by omega
 obtain ⟨n, u, e, _⟩ := hi.at _ _ (List.getElem?_eq_getElem hlt)
 have hx : xs[(i.fmod xs.length).toNat]? = some (.int n u) := by rw [List.getElem?_eq_getElem hlt, e]
 refine eF B3R B4o rfl hd hk [("nums", some (.ref l)), ("i", some (.int i t))] ["len"] fun Γ' U hdp hwp => ?_
 refine A1U ?_
 refine B5y (Ei (En M0) (Ar.bin (Ar.val (En M1)) (Ar.len (Eb A1n (Cx.Under.gl U) M0) (En M0) (Ln.list hl (up0 hz rfl))) (Bo.mod (fun _ => (by omega)))) (It.list hl h0 (by omega) hx (by intro _; with_unfolding_all rfl))) ?_
 refine A9Q ?_
 refine rAr Ar.con fun _ => ?_
 refine rAr (Ar.bin (Ar.val (En M1)) (Ar.len (Eb A1n (Cx.Under.gl U) M0) (En M0) (Ln.list hl (up0 hz rfl))) (Bo.div (fun _ => (by omega)) (by omega))) fun _ => ?_
 refine C0k (IntMulOk.of_left (by decide)) fun _ => ?_
 refine A8v fun _ => ?_
 fail "k"
 exact A2a (by exact Sub.refl) (q _ _)
theorem B3q {m : Addr} {num : Int} {data : List UInt8} (hd : Low Γ k) (hk : k ≤ 570) (hm : ReqIn led m num data)
  (q : ∀ x xd y yd el t1 t2 t3 t4 t5 t6 t7 t8 t9 u1 u2 u3 u4, Q (.ref x) vs ((el, .list [.ref y]) :: (xd, B2s (.int 2 t1) (.int 1 t2) (.int 2 t3) (.int 1 t4) (.int 0 t5) (.int num t6) (.ref el) (.int 0 t7) .none (.bool false) (.int 0 t8) (.bytes #[] t9)) :: (x, .inst 599 xd) :: (yd, A9H (.int 0 u1) (.int num u2) (.int 0 u3) (.bytes data.toArray u4)) :: (y, .inst 435 yd) :: led)) :
  Run Γ vs led (call (.ref 596) [.ref m]) Q := by
 obtain ⟨md, el, e, ed, t1, t2, t3, t4, t5, t6, t7, t8, t9, u1, u2, u3, u4, h1, h2, h3, h4, h5⟩ := hm
 refine eF B2G B3g rfl hd hk [("self", some (.ref m)), ("other", none)] ["Message"] fun Γ' U hdp hwp => ?_
 refine xAs rfl ?_
 refine rC (Eg A4g (Cx.Under.gl U) M0) (Callee.fn (Cls.keeps A0S)) (Evs.cons (Ea M0 h1 h2 M0 A2N rfl) (Evs.cons (Ea M0 h1 h2 M1 A0C rfl) (Evs.cons (Ea M0 h1 h2 M2 A1t rfl) (Evs.cons (Ea M0 h1 h2 M3 A2M rfl) Evs.nil)))) ?_
 refine B1T hdp (up1 hk rfl) fun _ _ _ _ _ _ _ _ => ?_
 refine kAs V1 ?_
 refine A1x (Ea M0 (N3 h1) (N3 h2) M4 A1o rfl) rfl ?_
 refine A4A (En M1) M2 U1 F4 A1o A0Q ?_
 refine A1x (Ea M0 (N3 h1) (N3 h2) M5 A0l rfl) rfl ?_
 refine A4A (En M1) M2 U1 F5 A0l A0Q ?_
 refine A4n rfl ?_
 refine' B8l (cl := []) (x := "entry") (l := el) (v := .ref e) (P := fun L y l₁ => ∃ y' yd, y = .ref y' ∧ l₁ = (yd, A9H (.int 0 u1) (.int num u2) (.int 0 u3) (.bytes data.toArray u4)) :: (y', .inst 435 yd) :: L) ?H ?hl ?hP ?E ?q (by with_unfolding_all rfl) (by kernel_rfl) (by intro _; rfl)
 case hl => exact N3 h3
 case H =>
  refine rE (Ea M0 (N3 h1) (N3 h2) M6 A0X rfl) ?_
  exact Stop.mk ⟨rfl, rfl, rfl⟩
 case hP =>
  rintro y L ⟨y', yd, rfl, rfl⟩
  exact N5 h3
 case E =>
  intro a C D
  have hdo := hdp.off
  refine rM (Ec M1 A6B rfl rfl rfl) (Gm.inst (N6 h4) (N6 h5) A6I rfl) Evs.nil rfl ?_
  refine B9Y hdo (up1 hk rfl) (N6 h4) (N6 h5) rfl rfl rfl rfl fun _ _ => ?_
  refine And.intro rfl ?_
  first | exact ⟨rfl, _, by fail, _, _, rfl, rfl⟩ | exact ⟨_, by exact Sub.cons E2 (Sub.cons E2 (Sub.cons E2 Sub.refl)), _, _, rfl, rfl⟩
 case q =>
  rintro y D L ⟨y', yd, rfl, rfl⟩
  refine A4A (En M1) M5 U4 F6 A0X A0Q ?_
  refine A1x (Ea M0 (N6 h1) (N6 h2) M7 A1z rfl) rfl ?_
  refine A4A (En M1) M5 U4 F7 A1z A0Q ?_
  refine xIf ?_
  refine A1K (Ea M0 (N6 h1) (N6 h2) M8 A2c rfl) Eo rfl Cm.noNN ?_
  refine A0R rfl ?_
  refine A0a ?_
  refine A1x (Ea M0 (N6 h1) (N6 h2) M9 A1y rfl) rfl ?_
  refine A4A (En M1) M5 U4 F9 A1y A0Q ?_
  refine A1x (Ea M0 (N6 h1) (N6 h2) M10 A1a rfl) rfl ?_
  refine A4A (En M1) M5 U4 F10 A1a A0Q ?_
  refine A1x (Ea M0 (N6 h1) (N6 h2) M11 A0x rfl) rfl ?_
  refine A4A (En M1) M5 U4 F11 A0x A0Q ?_
  refine A3h (En M1) ?_
  fail "k"
  exact A2a (by exact Sub.cons E0 (Sub.cons E3 (Sub.cons E3 (Sub.cons E0 (Sub.cons E0 (Sub.skip Sub.refl)))))) (q _ _ _ _ _ _ _ _ _ _ _ _ _ _ _ _ _ _)
theorem B3r {m : Addr} {num : Int} {ctx : List UInt8} (hd : Low Γ k) (hk : k ≤ 570) (hm : AnsIn led m num ctx)
  (q : ∀ x xd el t1 t2 t3 t4 t5 t6 t7 t8 t9, Q (.ref x) vs ((el, .list []) :: (xd, B2s (.int 4 t1) (.int 2 t2) (.int 1 t3) (.int 1 t4) (.int 0 t5) (.int num t6) (.ref el) (.int 0 t7) .none (.bool false) (.int 0 t8) (.bytes ctx.toArray t9)) :: (x, .inst 599 xd) :: led)) :
  Run Γ vs led (call (.ref 596) [.ref m]) Q := by
 obtain ⟨md, el, t1, t2, t3, t4, t5, t6, t7, t8, t9, h1, h2, h3⟩ := hm
 refine eF B2G B3g rfl hd hk [("self", some (.ref m)), ("other", none)] ["Message"] fun Γ' U hdp hwp => ?_
 refine xAs rfl ?_
 refine rC (Eg A4g (Cx.Under.gl U) M0) (Callee.fn (Cls.keeps A0S)) (Evs.cons (Ea M0 h1 h2 M0 A2N rfl) (Evs.cons (Ea M0 h1 h2 M1 A0C rfl) (Evs.cons (Ea M0 h1 h2 M2 A1t rfl) (Evs.cons (Ea M0 h1 h2 M3 A2M rfl) Evs.nil)))) ?_
 refine B1T hdp (up1 hk rfl) fun _ _ _ _ _ _ _ _ => ?_
 refine kAs V1 ?_
 refine A1x (Ea M0 (N3 h1) (N3 h2) M4 A1o rfl) rfl ?_
 refine A4A (En M1) M2 U1 F4 A1o A0Q ?_
 refine A1x (Ea M0 (N3 h1) (N3 h2) M5 A0l rfl) rfl ?_
 refine A4A (En M1) M2 U1 F5 A0l A0Q ?_
 refine A4n rfl ?_
 refine' B3C (cl := []) (x := "entry") (l := el) ?H ?hl ?q (by with_unfolding_all rfl) (by kernel_rfl) (by intro _; rfl)
 case hl => exact N3 h3
 case H =>
  refine rE (Ea M0 (N3 h1) (N3 h2) M6 A0X rfl) ?_
  exact Stop.mk ⟨rfl, rfl, rfl⟩
 case q =>
  intro D
  refine A4A (En M1) M3 U2 F6 A0X A0Q ?_
  refine A1x (Ea M0 (N4 h1) (N4 h2) M7 A1z rfl) rfl ?_
  refine A4A (En M1) M3 U2 F7 A1z A0Q ?_
  refine xIf ?_
  refine A1K (Ea M0 (N4 h1) (N4 h2) M8 A2c rfl) Eo rfl Cm.noNN ?_
  refine A0R rfl ?_
  refine A0a ?_
  refine A1x (Ea M0 (N4 h1) (N4 h2) M9 A1y rfl) rfl ?_
  refine A4A (En M1) M3 U2 F9 A1y A0Q ?_
  refine A1x (Ea M0 (N4 h1) (N4 h2) M10 A1a rfl) rfl ?_
  refine A4A (En M1) M3 U2 F10 A1a A0Q ?_
  refine A1x (Ea M0 (N4 h1) (N4 h2) M11 A0x rfl) rfl ?_
  refine A4A (En M1) M3 U2 F11 A0x A0Q ?_
  refine A3h (En M1) ?_
  fail "k"
  exact A2a (by exact Sub.cons E0 (Sub.cons E1 (Sub.cons E1 (Sub.skip Sub.refl)))) (q _ _ _ _ _ _ _ _ _ _ _ _)
end
end Mine
namespace Mine
section
variable {Γ : Cx} {vs : A0e} {led R C : Led} {Q : Value → A0e → Led → Prop} {k : Nat}
noncomputable abbrev A3P (fa ly la : Addr) (sn lo : Value) (cu : Addr) : LObj := .flds [("fates", .ref fa), ("wire", .bool false), ("lying", .ref ly), ("late", .ref la), ("sent", sn), ("lost", lo), ("cuts", .ref cu), ("groups", .none)]
theorem B1Q {n nd fa ly la cu : Addr} {sn lo : Value} {cv : List Value} {cuts : List (Int × Int)} {p q' : Int} {t u : Tok} (hd : Low Γ k) (hk : k ≤ 580) (hn : (n, .inst 747 nd) ∈ led) (hf : (nd, A3P fa ly la sn lo cu) ∈ led) (hc : (cu, .list cv) ∈ led) (P : Pairs led cv cuts) (hne : p ≠ q')
  (q : Q (.bool (decide ((p, q') ∉ cuts))) vs led) : Run Γ vs led (call (.ref 744) [.ref n, .int p t, .int q' u]) Q := by
 by_cases hin : (p, q') ∈ cuts
 ·
  refine eF B2z B2Z rfl hd hk [("self", some (.ref n)), ("frm", some (.int p t)), ("to", some (.int q' u)), ("group", none)] [] fun Γ' U hdp hwp => ?_
  refine xIf ?_
  refine A0g (Ar.val (En M1)) (Ar.val (En M2)) rfl Ci.eq ?_
  refine A0R (by fail "c3") ?_
  refine A0a ?_
  refine xIf ?_
  refine B5d rfl ?_
  refine A7m (Evs.cons (En M1) (Evs.cons (En M2) Evs.nil)) ?_
  refine A0q (by fail "c3") fun _ => ?_
  refine rE (Ea M0 (N1 hn) (N1 hf) M6 A1R rfl) ?_
  refine A7L (Low.units hdp (by omega)) (N1 hc) (Pairs.grow (Grow.cons Grow.refl) P) M0 ?_
  refine A0c ?_
  refine A2s (by fail "c3") ?_
  refine A3h Et ?_
  rw [decide_eq_false (by simpa using hin)] at q
  fail "k"
  exact A2a (by exact Sub.skip Sub.refl) (q)
 ·
  refine eF B2z B2Z rfl hd hk [("self", some (.ref n)), ("frm", some (.int p t)), ("to", some (.int q' u)), ("group", none)] [] fun Γ' U hdp hwp => ?_
  refine xIf ?_
  refine A0g (Ar.val (En M1)) (Ar.val (En M2)) rfl Ci.eq ?_
  refine A0R (by fail "c3") ?_
  refine A0a ?_
  refine xIf ?_
  refine B5d rfl ?_
  refine A7m (Evs.cons (En M1) (Evs.cons (En M2) Evs.nil)) ?_
  refine A0q (by fail "c3") fun _ => ?_
  refine rE (Ea M0 (N1 hn) (N1 hf) M6 A1R rfl) ?_
  refine A7L (Low.units hdp (by omega)) (N1 hc) (Pairs.grow (Grow.cons Grow.refl) P) M0 ?_
  refine A0c ?_
  refine A0R (by fail "c3") ?_
  refine A0a ?_
  refine xIf ?_
  refine A1K (Ea M0 (N1 hn) (N1 hf) M7 A3t rfl) Eo rfl Cm.isNN ?_
  refine A2s rfl ?_
  refine A3h Et ?_
  rw [decide_eq_true hin] at q
  fail "k"
  exact A2a (by exact Sub.skip Sub.refl) (q)
theorem B7R {n nd fa ly la cu : Addr} {sn lo : Value} {fv : List Value} {fs : List Int} {i : Int} {t : Tok} (hd : Low Γ k) (hk : k ≤ 580) (hn : (n, .inst 747 nd) ∈ led) (hf : (nd, A3P fa ly la sn lo cu) ∈ led) (hc : (fa, .list fv) ∈ led) (hi : IntsAre fv fs) (hz : fv.length ≤ 100)
  (q : ∀ f t, (fv = [] → f = 0) → Q (.int f t) vs led) : Run Γ vs led (call (.ref 650) [.ref n, .int i t]) Q := by
 by_cases he : fv = []
 ·
  refine eF B2E B3e rfl hd hk [("self", some (.ref n)), ("number", some (.int i t))] ["FATE_KEEP", "len", "FATE_COUNT"] fun Γ' U hdp hwp => ?_
  refine xIf ?_
  refine A5n ?_
  refine A1F (Ea M0 hn hf M0 A1X rfl) rfl ?_
  refine A6p hc (up0 hz rfl) ?_
  refine A2s (by fail "c3") ?_
  refine A3h (Eg A7C (Cx.Under.gl U) M0) ?_
  fail "k"
  exact A2a (by exact Sub.refl) (q 0 _ (fun _ => rfl))
 ·have hpos : (0 : Int) < fv.length := by have := List.length_pos_iff.mpr he; omega
  have h0 : 0 ≤ i.fmod fv.length := Int.fmod_nonneg_of_pos _ hpos
  have h1 : i.fmod fv.length < fv.length := Int.fmod_lt_of_pos _ hpos
  have hlt : (i.fmod fv.length).toNat < fv.length := by omega
  obtain ⟨x, u, e, _⟩ := hi.at _ _ (List.getElem?_eq_getElem hlt)
  have hx : fv[(i.fmod fv.length).toNat]? = some (.int x u) := by rw [List.getElem?_eq_getElem hlt, e]
  refine eF B2E B3e rfl hd hk [("self", some (.ref n)), ("number", some (.int i t))] ["FATE_KEEP", "len", "FATE_COUNT"] fun Γ' U hdp hwp => ?_
  refine xIf ?_
  refine A5n ?_
  refine A1F (Ea M0 hn hf M0 A1X rfl) rfl ?_
  refine A6p hc (up0 hz rfl) ?_
  refine A0R (by fail "c3") ?_
  refine A0a ?_
  refine A1U ?_
  refine rAr (Ar.bin (Ar.val (Ei (Ea M0 hn hf M0 A1X rfl) (Ar.bin (Ar.val (En M1)) (Ar.len (Eb A1n (Cx.Under.gl U) M1) (Ea M0 hn hf M0 A1X rfl) (Ln.list hc (up0 hz rfl))) (Bo.mod (fun _ => (by omega)))) (It.list hc h0 (by omega) hx (by intro _; with_unfolding_all rfl)))) (Ar.val (Eg A6T (Cx.Under.gl U) M2)) (Bo.mod (fun _ => (by omega)))) fun _ => ?_
  fail "k"
  exact A2a (by exact Sub.refl) (q _ _ (fun h => absurd h he))
theorem B1S {n nd m fa ly la cu : Addr} {sn lo : Value} {num : Int} {M : Msg} {t : Tok} (hd : Low Γ k) (hk : k ≤ 560) (hC : Cut C R led) (hn : (n, .inst 747 nd) ∈ led) (hf : (nd, A3P fa ly la sn lo cu) ∈ led) (hm : MsgIn led m M)
  (q : ∀ r R', Grow R R' → RowIn R' (.ref r) ⟨num, M⟩ → Q (.ref r) vs (C ++ R')) : Run Γ vs led (call (.ref 657) [.ref n, .int num t, .ref m]) Q := by
 cases M with
 | req rn data =>
  have hm' : ReqIn led m rn data := hm
  have hm2 := hm
  obtain ⟨md, el, e, ed, t1, t2, t3, t4, t5, t6, t7, t8, t9, u1, u2, u3, u4, h1, h2, h3, h4, h5⟩ := hm2
  refine eF B2D B3d rfl hd hk [("self", some (.ref n)), ("number", some (.int num t)), ("message", some (.ref m))] ["encode_message"] fun Γ' U hdp hwp => ?_
  refine xIf ?_
  refine A1F (Ea M0 hn hf M1 A2m rfl) rfl ?_
  refine A0c ?_
  refine A0R rfl ?_
  refine A0a ?_
  refine A1U ?_
  refine A6s ?_
  refine A0m (En M1) ?_
  refine A0m (Ea M2 h1 h2 M1 A0C rfl) ?_
  refine A0m (Ea M2 h1 h2 M2 A1t rfl) ?_
  refine A0A rfl ?_
  refine rM (En M2) (Gm.inst h1 h2 A2p rfl) Evs.nil rfl ?_
  refine B3q hdp (up1 hk rfl) hm' fun _ _ _ _ _ _ _ _ _ _ _ _ _ _ _ _ _ _ => ?_
  refine A0d ?_
  refine A0q (by fail "c3") fun _ => ?_
  refine' ⟨_, Put.sub ?hp, q _ _ ?hg (RowIn.mkReq ?a (ReqIn.mk ?b ?c ?d ?e ?f))⟩
  case hp => exact A0H (A0H (A0H (A0H (A0H (A0H (A3l hC))))))
  case hg => exact Grow.cons (Grow.cons (Grow.cons (Grow.cons (Grow.cons (Grow.cons Grow.refl)))))
  case a => exact M0
  case b => exact M3
  case c => exact M2
  case d => exact M1
  case e => exact M5
  case f => exact M4
 | ans rn ctx =>
  have hm' : AnsIn led m rn ctx := hm
  have hm2 := hm
  obtain ⟨md, el, t1, t2, t3, t4, t5, t6, t7, t8, t9, h1, h2, h3⟩ := hm2
  refine eF B2D B3d rfl hd hk [("self", some (.ref n)), ("number", some (.int num t)), ("message", some (.ref m))] ["encode_message"] fun Γ' U hdp hwp => ?_
  refine xIf ?_
  refine A1F (Ea M0 hn hf M1 A2m rfl) rfl ?_
  refine A0c ?_
  refine A0R rfl ?_
  refine A0a ?_
  refine A1U ?_
  refine A6s ?_
  refine A0m (En M1) ?_
  refine A0m (Ea M2 h1 h2 M1 A0C rfl) ?_
  refine A0m (Ea M2 h1 h2 M2 A1t rfl) ?_
  refine A0A rfl ?_
  refine rM (En M2) (Gm.inst h1 h2 A2p rfl) Evs.nil rfl ?_
  refine B3r hdp (up1 hk rfl) hm' fun _ _ _ _ _ _ _ _ _ _ _ _ => ?_
  refine A0d ?_
  refine A0q (by fail "c3") fun _ => ?_
  refine' ⟨_, Put.sub ?hp, q _ _ ?hg (RowIn.mkAns ?a (AnsIn.mk ?b ?c ?d))⟩
  case hp => exact A0H (A0H (A0H (A0H (A3l hC))))
  case hg => exact Grow.cons (Grow.cons (Grow.cons (Grow.cons Grow.refl)))
  case a => exact M0
  case b => exact M3
  case c => exact M2
  case d => exact M1
theorem B9X {n nd r fa ly la cu : Addr} {sn lo : Value} {row : Row} (hd : Low Γ k) (hk : k ≤ 560) (hC : Cut C R led) (hn : (n, .inst 747 nd) ∈ led) (hf : (nd, A3P fa ly la sn lo cu) ∈ led) (hr : RowIn led (.ref r) row)
  (q : ∀ r R', Grow R R' → RowIn R' (.ref r) row → Q (.ref r) vs (C ++ R')) : Run Γ vs led (call (.ref 664) [.ref n, .ref r]) Q := by
 obtain ⟨r', m, t1, t2, t3, e, h0, hm⟩ := hr
 cases e
 obtain ⟨num, M⟩ := row
 cases M with
 | req rn data =>
  have hm' : ReqIn led m rn data := hm
  have hm2 := hm
  obtain ⟨md, el, e, ed, t4, t5, t6, t7, t8, t9, t10, t11, t12, u1, u2, u3, u4, h1, h2, h3, h4, h5⟩ := hm2
  replace h0 : (r, LObj.tup [.int num t1, .int 1 t2, .int 2 t3, .ref m]) ∈ led := h0
  refine eF B2C B3c rfl hd hk [("self", some (.ref n)), ("row", some (.ref r)), ("number", none), ("to", none), ("frm", none), ("payload", none)] [] fun Γ' U hdp hwp => ?_
  refine xIf ?_
  refine A1F (Ea M0 hn hf M1 A2m rfl) rfl ?_
  refine A0c ?_
  refine A0R rfl ?_
  refine A0a ?_
  refine B1m rfl rfl ?_
  refine rE (En M1) ?_
  refine A1O h0 rfl rfl ?_
  refine A0Y ?_
  refine A0b V2 ?_
  refine A0Y ?_
  refine A0b V3 ?_
  refine A0Y ?_
  refine A0b V4 ?_
  refine A0Y ?_
  refine A0b V5 ?_
  refine A4X ?_
  refine A1U ?_
  refine A6s ?_
  refine A0m (En M2) ?_
  refine A0m (En M3) ?_
  refine A0m (En M4) ?_
  refine A0A rfl ?_
  refine rM (En M5) (Gm.inst h1 h2 A2p rfl) Evs.nil rfl ?_
  refine B3q hdp (up1 hk rfl) hm' fun _ _ _ _ _ _ _ _ _ _ _ _ _ _ _ _ _ _ => ?_
  refine A0d ?_
  refine A0q (by fail "c3") fun _ => ?_
  refine' ⟨_, Put.sub ?hp, q _ _ ?hg (RowIn.mkReq ?a (ReqIn.mk ?b ?c ?d ?e ?f))⟩
  case hp => exact A0H (A0H (A0H (A0H (A0H (A0H (A3l hC))))))
  case hg => exact Grow.cons (Grow.cons (Grow.cons (Grow.cons (Grow.cons (Grow.cons Grow.refl)))))
  case a => exact M0
  case b => exact M3
  case c => exact M2
  case d => exact M1
  case e => exact M5
  case f => exact M4
 | ans rn ctx =>
  have hm' : AnsIn led m rn ctx := hm
  have hm2 := hm
  obtain ⟨md, el, t4, t5, t6, t7, t8, t9, t10, t11, t12, h1, h2, h3⟩ := hm2
  replace h0 : (r, LObj.tup [.int num t1, .int 2 t2, .int 1 t3, .ref m]) ∈ led := h0
  refine eF B2C B3c rfl hd hk [("self", some (.ref n)), ("row", some (.ref r)), ("number", none), ("to", none), ("frm", none), ("payload", none)] [] fun Γ' U hdp hwp => ?_
  refine xIf ?_
  refine A1F (Ea M0 hn hf M1 A2m rfl) rfl ?_
  refine A0c ?_
  refine A0R rfl ?_
  refine A0a ?_
  refine B1m rfl rfl ?_
  refine rE (En M1) ?_
  refine A1O h0 rfl rfl ?_
  refine A0Y ?_
  refine A0b V2 ?_
  refine A0Y ?_
  refine A0b V3 ?_
  refine A0Y ?_
  refine A0b V4 ?_
  refine A0Y ?_
  refine A0b V5 ?_
  refine A4X ?_
  refine A1U ?_
  refine A6s ?_
  refine A0m (En M2) ?_
  refine A0m (En M3) ?_
  refine A0m (En M4) ?_
  refine A0A rfl ?_
  refine rM (En M5) (Gm.inst h1 h2 A2p rfl) Evs.nil rfl ?_
  refine B3r hdp (up1 hk rfl) hm' fun _ _ _ _ _ _ _ _ _ _ _ _ => ?_
  refine A0d ?_
  refine A0q (by fail "c3") fun _ => ?_
  refine' ⟨_, Put.sub ?hp, q _ _ ?hg (RowIn.mkAns ?a (AnsIn.mk ?b ?c ?d))⟩
  case hp => exact A0H (A0H (A0H (A0H (A3l hC))))
  case hg => exact Grow.cons (Grow.cons (Grow.cons (Grow.cons Grow.refl)))
  case a => exact M0
  case b => exact M3
  case c => exact M2
  case d => exact M1
end
end Mine
namespace Mine
section
variable {Γ : Cx} {vs : A0e} {led R C : Led} {Q : Value → A0e → Led → Prop} {k : Nat}
theorem A9C {n nd fa ly la cu : Addr} {sn lo : Value} {lv av : List Value} {rows late : List Row} {i : Int} {t : Tok} {X : LObj} {Z : Led} (hd : Low Γ k) (hk : k ≤ 580) (P : Pick [(nd, A3P fa ly la sn lo cu), (ly, .list lv), (la, .list av), (cu, X)] led R) (hC : Cut C Z R) (hn : (n, .inst 747 nd) ∈ R)
  (hl : RowsIn Z lv rows) (ha : RowsIn Z av late) (hz : lv.length ≤ 1000) (hz2 : av.length ≤ 1000)
  (q : ∀ lv' av' la' rows' late', RowsIn Z lv' rows' → RowsIn Z av' late' → (∀ x ∈ rows' ++ late', x ∈ rows ++ late) → rows'.length + late'.length = rows.length + late.length → (late = [] → rows' = rows ∧ late' = []) →
   Q .none vs ((nd, A3P fa ly la' sn lo cu) :: (ly, .list lv') :: (la', .list av') :: (cu, X) :: R)) : Run Γ vs led (call (.ref 671) [.ref n, .int i t]) Q := by
 refine Run.pick4 P ?_
 refine eF B5X B7j rfl hd hk [("self", some (.ref n)), ("number", some (.int i t)), ("still", none), ("row", none)] ["LATE_BY"] fun Γ' U hdp hwp => ?_
 refine xAs rfl ?_
 refine A3r Evs.nil ?_
 refine A0o (by decide) fun _ => ?_
 refine kAs V2 ?_
 rename_i st
 refine B2o (l := la) (xs := av) (fun j vs' L => ∃ o mv sv rm rs, vs' = [(.ofString "self", some (.ref n)), (.ofString "number", some (.int i t)), (.ofString "still", some (.ref st)), (.ofString "row", o)] ∧ L = (st, .list sv) :: (nd, A3P fa ly la sn lo cu) :: (ly, .list (lv ++ mv)) :: (la, .list av) :: (cu, X) :: R ∧
  RowsIn Z mv rm ∧ RowsIn Z sv rs ∧ (∀ x ∈ rm ++ rs, x ∈ late) ∧ rm.length + rs.length = j) ?H ?hJ ?turn ?done (by intro _; rfl) (by intro _ _; rfl)
 case H =>
  refine rE (Ea M0 (N5 hn) M1 M3 A1k rfl) ?_
  exact Stop.mk ⟨rfl, by exact M3, _, [], [], [], [], rfl, by simp, .nil, .nil, by simp, rfl⟩
 case hJ =>
  rintro j vs' L ⟨o, mv, sv, rm, rs, rfl, rfl, _⟩
  exact M3
 case turn =>
  rintro j v vs' L a hv ⟨o, mv, sv, rm, rs, rfl, rfl, h1, h2, h3, h4⟩
  obtain ⟨row, hrow, r, m, t1, t2, t3, rfl, hr, hm⟩ := ha.at hv
  have hr' := hC.grow _ hr
  have hmem : row ∈ late := List.mem_of_getElem? hrow
  have l1 := h1.length
  have l2 := h2.length
  have hjl := (List.getElem?_eq_some_iff.mp hv).1
  refine A0b V3 ?_
  refine xIf ?_
  refine A0g (Ar.bin (Ar.val (Ei (En M3) Ar.con (It.tup (N6 hr') (by decide) (by decide) rfl (by intro _; with_unfolding_all rfl)))) (Ar.val (Eg A9t (Cx.Under.gl U) M0)) Bo.add) (Ar.val (En M1)) rfl Ci.le ?_
  refine ⟨fun hb => ?_, fun hb => ?_⟩
  ·refine A1A rfl ?_
   refine rM (Ea M0 (N6 hn) M2 M2 A0t rfl) (Gm.app M3) (Evs.cons (En M3) Evs.nil) rfl ?_
   refine A0y U3 (by fail "c1") ?_
   refine A1B ?_
   refine A0a ?_
   refine A0a ?_
   refine A0n ?_
   dsimp only
   refine' ⟨_, ?hs, _, mv ++ [.ref r], sv, rm ++ [row], rs, rfl, rfl, h1.app (.one ⟨r, m, t1, t2, t3, rfl, hr, hm⟩), h2, ?_, by simp; omega⟩
   case hs => rw [← List.append_assoc]; exact Sub.refl
   intro x hx
   simp only [List.mem_append, List.mem_singleton] at hx
   rcases hx with (hx | rfl) | hx
   ·exact h3 x (List.mem_append_left _ hx)
   ·exact hmem
   ·exact h3 x (List.mem_append_right _ hx)
  ·refine A1A rfl ?_
   refine rM (En M2) (Gm.app M1) (Evs.cons (En M3) Evs.nil) rfl ?_
   refine A0y U1 (by omega) ?_
   refine A1B ?_
   refine A0a ?_
   refine A0a ?_
   refine A0n ?_
   dsimp only
   refine' ⟨_, ?hs, _, mv, sv ++ [.ref r], rm, rs ++ [row], rfl, rfl, h1, h2.app (.one ⟨r, m, t1, t2, t3, rfl, hr, hm⟩), ?_, by simp; omega⟩
   case hs => exact Sub.refl
   intro x hx
   simp only [List.mem_append, List.mem_singleton] at hx
   rcases hx with hx | (hx | rfl)
   ·exact h3 x (List.mem_append_left _ hx)
   ·exact h3 x (List.mem_append_right _ hx)
   ·exact hmem
 case done =>
  rintro vs' L ⟨o, mv, sv, rm, rs, rfl, rfl, h1, h2, h3, h4⟩
  have l1 := h1.length
  have l2 := h2.length
  have l3 := ha.length
  refine A1x (En M2) rfl ?_
  refine A4A (En M0) (N5 hn) U1 F3 A1k A3j ?_
  refine A0a ?_
  refine A0n ?_
  refine' ⟨_, ?hs, q (lv ++ mv) sv st (rows ++ rm) rs (hl.app h1) h2 ?_ ?_ ?_⟩
  case hs => (refine' Sub.cons ?se ?ss; (case se => exact E1); (case ss => (refine' Sub.cons ?se ?ss; (case se => exact E1); (case ss => (refine' Sub.cons ?se ?ss; (case se => exact E0); (case ss => (refine' Sub.cons ?se ?ss; (case se => exact E1); (case ss => exact Sub.skip Sub.refl))))))))
  ·intro x hx
   simp only [List.mem_append] at hx ⊢
   rcases hx with (hx | hx) | hx
   ·exact .inl hx
   ·exact .inr (h3 x (List.mem_append_left _ hx))
   ·exact .inr (h3 x (List.mem_append_right _ hx))
  ·rw [List.length_append]; omega
  ·intro e
   subst e
   have : rm.length = 0 ∧ rs.length = 0 := by simp only [List.length_nil] at l3; omega
   rw [List.length_eq_zero_iff.mp this.1, List.length_eq_zero_iff.mp this.2]
   simp
end
end Mine
namespace Mine
theorem MsgIn.attrs {R : Led} {m : Addr} {M : Msg} (h : MsgIn R m M) : ∃ md a b c d e f g t1 t2 t3, (m, LObj.inst 599 md) ∈ R ∧ (md, B2s a (.int M.to t1) (.int M.frm t2) b c d (.ref e) f .none (.bool false) g t3) ∈ R := by
 cases M with
 | req rn data =>
  obtain ⟨md, el, e, ed, t1, t2, t3, t4, t5, t6, t7, t8, t9, u1, u2, u3, u4, h1, h2, h3, h4, h5⟩ := h
  exact ⟨_, _, _, _, _, _, _, _, _, _, _, h1, h2⟩
 | ans rn ctx =>
  obtain ⟨md, el, t1, t2, t3, t4, t5, t6, t7, t8, t9, h1, h2, h3⟩ := h
  exact ⟨_, _, _, _, _, _, _, _, _, _, _, h1, h2⟩
theorem Msg.ne (M : Msg) : M.frm ≠ M.to := by cases M <;> simp [Msg.frm, Msg.to]
structure Sent (rows late rows' late' : List Row) (M : Msg) (cuts : List (Int × Int)) (fv : List Value) (lo lo' : Int) : Prop where
 old : ∀ x ∈ rows' ++ late', x ∈ rows ++ late ∨ x.msg = M
 len : rows'.length + late'.length ≤ rows.length + late.length + 2
 cut : (M.frm, M.to) ∈ cuts → lo' = lo + 1
 calm : (M.frm, M.to) ∉ cuts → fv = [] → late = [] → (∃ x : Row, x.msg = M ∧ rows' = rows ++ [x]) ∧ late' = []
section
variable {Γ : Cx} {vs : A0e} {led R C : Led} {Q : Value → A0e → Led → Prop} {k : Nat}
theorem B7S {n nd m fa ly la cu : Addr} {sn lo : Int} {ts tl : Tok} {lv av cv fv : List Value} {fs : List Int} {rows late : List Row} {cuts : List (Int × Int)} {M : Msg} {X : Led} (hd : Low Γ k) (hk : k ≤ 540)
  (P : Pick [(nd, A3P fa ly la (.int sn ts) (.int lo tl) cu), (ly, .list lv), (la, .list av), (cu, .list cv)] led R) (hC : Cut C X R) (hn : (n, .inst 747 nd) ∈ R) (hfa : (fa, .list fv) ∈ R) (Pc : Pairs R cv cuts)
  (hl : RowsIn X lv rows) (ha : RowsIn X av late) (hm : MsgIn R m M) (hi : IntsAre fv fs) (hfz : fv.length ≤ 100) (hz : lv.length ≤ 900) (hz2 : av.length ≤ 900)
  (q : ∀ R' lv' av' la' rows' late' lo' ts' tl', Grow X R' → RowsIn R' lv' rows' → RowsIn R' av' late' → Sent rows late rows' late' M cuts fv lo lo' →
   Q .none vs ((nd, A3P fa ly la' (.int (sn + 1) ts') (.int lo' tl') cu) :: (ly, .list lv') :: (la', .list av') :: (cu, .list cv) :: (C ++ R'))) : Run Γ vs led (call (.ref 636) [.ref n, .ref m]) Q := by
 obtain ⟨md, a, b, c, d, e, f, g, t1, t2, t3, hm1, hm2⟩ := hm.attrs
 have hne := M.ne
 obtain rfl := hC.eq
 refine Run.pick4 P ?_
 by_cases hin : (M.frm, M.to) ∈ cuts
 ·
  refine eF B2F B3f rfl hd hk [("self", some (.ref n)), ("message", some (.ref m)), ("number", none), ("fate", none), ("row", none)] ["FATE_LOSE", "FATE_TWICE", "FATE_FIRST", "FATE_LATE"] fun Γ' U hdp hwp => ?_
  try (have hnp := U.nd.trans hn)
  refine A4Y (Ea M0 (N4 hn) M0 M4 A1Q rfl) rfl V2 ?_
  refine xAt (En M0) (N4 hn) M0 M4 A1Q rfl ?_
  refine rAr Ar.con fun _ => ?_
  refine A4P fun _ => ?_
  refine kSt (N4 hn) U0 F4 A1Q A3j ?_
  refine xAs rfl ?_
  refine rM (En M0) (Gm.inst (N4 hn) M0 A4q rfl) (Evs.cons (En M2) Evs.nil) rfl ?_
  refine B7R hdp (up1 hk rfl) (N4 hn) M0 (N4 hfa) hi hfz fun _ _ _ => ?_
  refine kAs V3 ?_
  refine xIf ?_
  refine tOr ?_
  refine A5n ?_
  refine A2t rfl ?_
  refine rM (En M0) (Gm.inst (N4 hn) M0 A2U rfl) (Evs.cons (Ea M1 (N4 hm1) (N4 hm2) M2 A1t rfl) (Evs.cons (Ea M1 (N4 hm1) (N4 hm2) M1 A0C rfl) Evs.nil)) rfl ?_
  refine B1Q hdp (up1 hk rfl) (N4 hn) M0 M3 (Pairs.grow (Grow.cons (Grow.cons (Grow.cons (Grow.cons Grow.refl)))) Pc) hne ?_
  refine A0c ?_
  refine A3N (by fail "c3") ?_
  refine A2s rfl ?_
  refine xAt (En M0) (N4 hn) M0 M5 A1j rfl ?_
  refine rAr Ar.con fun _ => ?_
  refine A4P fun _ => ?_
  refine kSt (N4 hn) U0 F5 A1j A3j ?_
  refine A0a ?_
  refine A1A rfl ?_
  refine rM (En M0) (Gm.inst (N4 hn) M0 A2k rfl) (Evs.cons (En M2) Evs.nil) rfl ?_
  refine A9C hdp (up1 hk rfl) (Pick.cons E0 (Pick.cons E0 (Pick.cons E0 (Pick.cons E0 Pick.nil)))) hC hn hl ha (up0 hz rfl) (up0 hz2 rfl) fun _ _ _ _ _ _ _ _ _ _ => ?_
  refine A1B ?_
  refine A0a ?_
  refine A0n ?_
  rename_i lv' av' la' rows' late' h1 h2 h3 h4 h5
  refine' ⟨_, ?hs, q X _ _ _ _ _ _ _ _ Grow.refl h1 h2 ⟨?_, ?_, ?_, ?_⟩⟩
  case hs => exact Sub.refl
  ·exact fun x hx => .inl (h3 x hx)
  ·omega
  ·exact fun _ => rfl
  ·exact fun h => absurd hin h
 ·
  refine eF B2F B3f rfl hd hk [("self", some (.ref n)), ("message", some (.ref m)), ("number", none), ("fate", none), ("row", none)] ["FATE_LOSE", "FATE_TWICE", "FATE_FIRST", "FATE_LATE"] fun Γ' U hdp hwp => ?_
  try (have hnp := U.nd.trans hn)
  refine A4Y (Ea M0 (N4 hn) M0 M4 A1Q rfl) rfl V2 ?_
  refine xAt (En M0) (N4 hn) M0 M4 A1Q rfl ?_
  refine rAr Ar.con fun _ => ?_
  refine A4P fun _ => ?_
  refine kSt (N4 hn) U0 F4 A1Q A3j ?_
  refine xAs rfl ?_
  refine rM (En M0) (Gm.inst (N4 hn) M0 A4q rfl) (Evs.cons (En M2) Evs.nil) rfl ?_
  refine B7R hdp (up1 hk rfl) (N4 hn) M0 (N4 hfa) hi hfz fun _ _ _ => ?_
  refine kAs V3 ?_
  refine xIf ?_
  refine tOr ?_
  refine A5n ?_
  refine A2t rfl ?_
  refine rM (En M0) (Gm.inst (N4 hn) M0 A2U rfl) (Evs.cons (Ea M1 (N4 hm1) (N4 hm2) M2 A1t rfl) (Evs.cons (Ea M1 (N4 hm1) (N4 hm2) M1 A0C rfl) Evs.nil)) rfl ?_
  refine B1Q hdp (up1 hk rfl) (N4 hn) M0 M3 (Pairs.grow (Grow.cons (Grow.cons (Grow.cons (Grow.cons Grow.refl)))) Pc) hne ?_
  refine A0c ?_
  refine A1D (by fail "c3") ?_
  refine tOr ?_
  refine A0g (Ar.val (En M3)) (Ar.val (Eg A7A (Cx.Under.gl U) M0)) rfl Ci.eq ?_
  rename _ = [] → _ = 0 => hf
  refine ⟨fun hb => ?_, fun hb => ?_⟩
  ·refine A2s rfl ?_
   refine xAt (En M0) (N4 hn) M0 M5 A1j rfl ?_
   refine rAr Ar.con fun _ => ?_
   refine A4P fun _ => ?_
   refine kSt (N4 hn) U0 F5 A1j A3j ?_
   refine A0a ?_
   refine A1A rfl ?_
   refine rM (En M0) (Gm.inst (N4 hn) M0 A2k rfl) (Evs.cons (En M2) Evs.nil) rfl ?_
   refine A9C hdp (up1 hk rfl) (Pick.cons E0 (Pick.cons E0 (Pick.cons E0 (Pick.cons E0 Pick.nil)))) hC hn hl ha (up0 hz rfl) (up0 hz2 rfl) fun _ _ _ _ _ _ _ _ _ _ => ?_
   refine A1B ?_
   refine A0a ?_
   refine A0n ?_
   rename_i lv' av' la' rows' late' h1 h2 h3 h4 h5
   refine' ⟨_, ?hs, q X _ _ _ _ _ _ _ _ Grow.refl h1 h2 ⟨?_, ?_, ?_, ?_⟩⟩
   case hs => exact Sub.refl
   ·exact fun x hx => .inl (h3 x hx)
   ·omega
   ·exact fun h => absurd h hin
   ·intro _ hv
    have := hf hv
    simp only [decide_eq_true_eq] at hb
    omega
  ·refine A0W ?_
   refine A0R rfl ?_
   refine xIf ?_
   refine A0g (Ar.val (En M3)) (Ar.val (Eg A6R (Cx.Under.gl U) M1)) rfl Ci.eq ?_
   refine ⟨fun hb2 => ?_, fun hb2 => ?_⟩
   ·refine xAs rfl ?_
    refine rM (En M0) (Gm.inst (N4 hn) M0 A2T rfl) (Evs.cons (En M2) (Evs.cons (En M1) Evs.nil)) rfl ?_
    refine B1S hdp (up1 hk rfl) (Cut.cons (Cut.cons (Cut.cons (Cut.cons hC)))) (N4 hn) M0 (MsgIn.mono (Grow.cons (Grow.cons (Grow.cons (Grow.cons Grow.refl)))) hm) fun _ _ _ _ => ?_
    dsimp only [List.cons_append, List.nil_append]
    refine kAs V4 ?_
    refine A1A rfl ?_
    refine rM (Ea M0 (N4 (Grow.mem (Grow.app (by assumption)) hn)) M0 M2 A0t rfl) (Gm.app M1) (Evs.cons (En M4) Evs.nil) rfl ?_
    refine A0y U1 (up0 hz rfl) ?_
    refine A1B ?_
    refine A1A rfl ?_
    refine rM' (Ea M0 (N4 (Grow.mem (Grow.app (by assumption)) hn)) M0 M2 A0t rfl) (Gm.app M1) rfl rfl rfl ?_
    refine A0A rfl ?_
    refine rM (En M0) (Gm.inst (N4 (Grow.mem (Grow.app (by assumption)) hn)) M0 A7q rfl) (Evs.cons (En M4) Evs.nil) rfl ?_
    refine B9X hdp (up1 hk rfl) (Cut.cons (Cut.cons (Cut.cons (Cut.cons Cut.app)))) (N4 (Grow.mem (Grow.app (by assumption)) hn)) M0 (RowIn.mono (Grow.cons (Grow.cons (Grow.cons (Grow.cons (Grow.appR Grow.refl))))) (by assumption)) fun _ _ _ _ => ?_
    refine A0d ?_
    refine A0y U1 (by fail "c1") ?_
    refine A1B ?_
    refine A0a ?_
    refine A0a ?_
    refine A1A rfl ?_
    refine rM (En M0) (Gm.inst (N4 (Grow.mem (Grow.app (by assumption)) (Grow.mem (Grow.app (by assumption)) hn))) M0 A2k rfl) (Evs.cons (En M2) Evs.nil) rfl ?_
    refine A9C hdp (up1 hk rfl) (Pick.cons E0 (Pick.cons E0 (Pick.cons E0 (Pick.cons E0 Pick.nil)))) Cut.app (Grow.mem (Grow.app (by assumption)) (Grow.mem (Grow.app (by assumption)) hn)) (RowsIn.app (RowsIn.app (RowsIn.mono (Grow.trans (by assumption) (by assumption)) hl) (RowsIn.one (RowIn.mono (by assumption) (by assumption)))) (RowsIn.one (by assumption))) (RowsIn.mono (Grow.trans (by assumption) (by assumption)) ha) (by fail "c1") (up0 hz2 rfl) fun _ _ _ _ _ _ _ _ _ _ => ?_
    refine A1B ?_
    refine A0a ?_
    refine A0n ?_
    rename_i r1 R1 g1 hr1 r2 R2 g2 hr2 lv' av' la' rows' late' h1 h2 h3 h4 h5
    refine' ⟨_, ?hs, q R2 _ _ _ _ _ _ _ _ (g1.trans g2) h1 h2 ⟨?_, ?_, ?_, ?_⟩⟩
    case hs => exact Sub.refl
    ·intro x hx
     have := h3 x hx
     simp only [List.mem_append, List.mem_singleton] at this ⊢
     rcases this with ((h | h) | h) | h
     ·exact .inl (.inl h)
     ·exact .inr (by rw [h])
     ·exact .inr (by rw [h])
     ·exact .inl (.inr h)
    ·simp only [List.length_append, List.length_cons, List.length_nil] at h4; omega
    ·exact fun h => absurd h hin
    ·intro _ hv
     have := hf hv
     simp only [decide_eq_true_eq] at hb2
     omega
   ·refine xIf ?_
    refine A0g (Ar.val (En M3)) (Ar.val (Eg A6S (Cx.Under.gl U) M2)) rfl Ci.eq ?_
    refine ⟨fun hb3 => ?_, fun hb3 => ?_⟩
    ·refine A1A rfl ?_
     refine rM' (Ea M0 (N4 hn) M0 M2 A0t rfl) (Gm.ins M1) rfl rfl rfl ?_
     refine A0k Ar.con fun _ => ?_
     refine A0A rfl ?_
     refine rM (En M0) (Gm.inst (N4 hn) M0 A2T rfl) (Evs.cons (En M2) (Evs.cons (En M1) Evs.nil)) rfl ?_
     refine B1S hdp (up1 hk rfl) (Cut.cons (Cut.cons (Cut.cons (Cut.cons hC)))) (N4 hn) M0 (MsgIn.mono (Grow.cons (Grow.cons (Grow.cons (Grow.cons Grow.refl)))) hm) fun _ _ _ _ => ?_
     refine A0d ?_
     refine B0l (up0 hz rfl) U1 ?_
     refine A1B ?_
     refine A0a ?_
     refine A0a ?_
     refine A0a ?_
     refine A1A rfl ?_
     refine rM (En M0) (Gm.inst (N4 (Grow.mem (Grow.app (by assumption)) hn)) M0 A2k rfl) (Evs.cons (En M2) Evs.nil) rfl ?_
     refine A9C hdp (up1 hk rfl) (Pick.cons E0 (Pick.cons E0 (Pick.cons E0 (Pick.cons E0 Pick.nil)))) Cut.app (Grow.mem (Grow.app (by assumption)) hn) (RowsIn.cons (by assumption) (RowsIn.mono (by assumption) hl)) (RowsIn.mono (by assumption) ha) (by fail "c1") (up0 hz2 rfl) fun _ _ _ _ _ _ _ _ _ _ => ?_
     refine A1B ?_
     refine A0a ?_
     refine A0n ?_
     rename_i r1 R1 g1 hr1 lv' av' la' rows' late' h1 h2 h3 h4 h5
     refine' ⟨_, ?hs, q R1 _ _ _ _ _ _ _ _ g1 h1 h2 ⟨?_, ?_, ?_, ?_⟩⟩
     case hs => exact Sub.refl
     ·intro x hx
      have := h3 x hx
      simp only [List.mem_append, List.mem_cons] at this ⊢
      rcases this with (h | h) | h
      ·exact .inr (by rw [h])
      ·exact .inl (.inl h)
      ·exact .inl (.inr h)
     ·simp only [List.length_append, List.length_cons, List.length_nil] at h4; omega
     ·exact fun h => absurd h hin
     ·intro _ hv
      have := hf hv
      simp only [decide_eq_true_eq] at hb3
      omega
    ·refine xIf ?_
     refine A0g (Ar.val (En M3)) (Ar.val (Eg A7B (Cx.Under.gl U) M3)) rfl Ci.eq ?_
     refine ⟨fun hb4 => ?_, fun hb4 => ?_⟩
     ·refine A1A rfl ?_
      refine rM' (Ea M0 (N4 hn) M0 M3 A1k rfl) (Gm.app M2) rfl rfl rfl ?_
      refine A0A rfl ?_
      refine rM (En M0) (Gm.inst (N4 hn) M0 A2T rfl) (Evs.cons (En M2) (Evs.cons (En M1) Evs.nil)) rfl ?_
      refine B1S hdp (up1 hk rfl) (Cut.cons (Cut.cons (Cut.cons (Cut.cons hC)))) (N4 hn) M0 (MsgIn.mono (Grow.cons (Grow.cons (Grow.cons (Grow.cons Grow.refl)))) hm) fun _ _ _ _ => ?_
      refine A0d ?_
      refine A0y U2 (up0 hz2 rfl) ?_
      refine A1B ?_
      refine A0a ?_
      refine A0a ?_
      refine A0a ?_
      refine A0a ?_
      refine A1A rfl ?_
      refine rM (En M0) (Gm.inst (N4 (Grow.mem (Grow.app (by assumption)) hn)) M0 A2k rfl) (Evs.cons (En M2) Evs.nil) rfl ?_
      refine A9C hdp (up1 hk rfl) (Pick.cons E0 (Pick.cons E0 (Pick.cons E0 (Pick.cons E0 Pick.nil)))) Cut.app (Grow.mem (Grow.app (by assumption)) hn) (RowsIn.mono (by assumption) hl) (RowsIn.app (RowsIn.mono (by assumption) ha) (RowsIn.one (by assumption))) (up0 hz rfl) (by fail "c1") fun _ _ _ _ _ _ _ _ _ _ => ?_
      refine A1B ?_
      refine A0a ?_
      refine A0n ?_
      rename_i r1 R1 g1 hr1 lv' av' la' rows' late' h1 h2 h3 h4 h5
      refine' ⟨_, ?hs, q R1 _ _ _ _ _ _ _ _ g1 h1 h2 ⟨?_, ?_, ?_, ?_⟩⟩
      case hs => exact Sub.refl
      ·intro x hx
       have := h3 x hx
       simp only [List.mem_append, List.mem_singleton] at this ⊢
       rcases this with h | (h | h)
       ·exact .inl (.inl h)
       ·exact .inl (.inr h)
       ·exact .inr (by rw [h])
      ·simp only [List.length_append, List.length_cons, List.length_nil] at h4; omega
      ·exact fun h => absurd h hin
      ·intro _ hv
       have := hf hv
       simp only [decide_eq_true_eq] at hb4
       omega
     ·refine A1A rfl ?_
      refine rM' (Ea M0 (N4 hn) M0 M2 A0t rfl) (Gm.app M1) rfl rfl rfl ?_
      refine A0A rfl ?_
      refine rM (En M0) (Gm.inst (N4 hn) M0 A2T rfl) (Evs.cons (En M2) (Evs.cons (En M1) Evs.nil)) rfl ?_
      refine B1S hdp (up1 hk rfl) (Cut.cons (Cut.cons (Cut.cons (Cut.cons hC)))) (N4 hn) M0 (MsgIn.mono (Grow.cons (Grow.cons (Grow.cons (Grow.cons Grow.refl)))) hm) fun _ _ _ _ => ?_
      refine A0d ?_
      refine A0y U1 (up0 hz rfl) ?_
      refine A1B ?_
      refine A0a ?_
      refine A0a ?_
      refine A0a ?_
      refine A0a ?_
      refine A1A rfl ?_
      refine rM (En M0) (Gm.inst (N4 (Grow.mem (Grow.app (by assumption)) hn)) M0 A2k rfl) (Evs.cons (En M2) Evs.nil) rfl ?_
      refine A9C hdp (up1 hk rfl) (Pick.cons E0 (Pick.cons E0 (Pick.cons E0 (Pick.cons E0 Pick.nil)))) Cut.app (Grow.mem (Grow.app (by assumption)) hn) (RowsIn.app (RowsIn.mono (by assumption) hl) (RowsIn.one (by assumption))) (RowsIn.mono (by assumption) ha) (by fail "c1") (up0 hz2 rfl) fun _ _ _ _ _ _ _ _ _ _ => ?_
      refine A1B ?_
      refine A0a ?_
      refine A0n ?_
      rename_i r1 R1 g1 hr1 lv' av' la' rows' late' h1 h2 h3 h4 h5
      refine' ⟨_, ?hs, q R1 _ _ _ _ _ _ _ _ g1 h1 h2 ⟨?_, ?_, ?_, ?_⟩⟩
      case hs => exact Sub.refl
      ·intro x hx
       have := h3 x hx
       simp only [List.mem_append, List.mem_singleton] at this ⊢
       rcases this with (h | h) | h
       ·exact .inl (.inl h)
       ·exact .inr (by rw [h])
       ·exact .inl (.inr h)
      ·simp only [List.length_append, List.length_cons, List.length_nil] at h4; omega
      ·exact fun h => absurd h hin
      ·intro _ hv hl0
       exact ⟨⟨_, rfl, (h5 hl0).1⟩, (h5 hl0).2⟩
end
end Mine
namespace Mine
theorem A9R {R : Led} {a b : List Value} {x y : List (Int × Int)} (h : Pairs R a x) (h' : Pairs R b y) : Pairs R (a ++ b) (x ++ y) := by
 induction h with
 | nil => exact h'
 | cons c _ ih => exact .cons c ih
structure TakeRes (R : Led) (k : Int) (lv lv' : List Value) (rows rows' : List Row) (cuts : List (Int × Int)) (v : Value) (lo lo' : Int) : Prop where
 rin : RowsIn R lv' rows'
 res : (rows = [] ∧ rows' = [] ∧ v = .none ∧ lo' = lo) ∨ ∃ row, rows[(k.fmod rows.length).toNat]? = some row ∧ rows' = rows.eraseIdx (k.fmod rows.length).toNat ∧
  (((row.msg.frm, row.msg.to) ∈ cuts ∧ v = .none ∧ lo' = lo + 1) ∨ ((row.msg.frm, row.msg.to) ∉ cuts ∧ lo' = lo ∧ ∃ m, v = .ref m ∧ MsgIn R m row.msg))
section
variable {Γ : Cx} {vs : A0e} {led R C : Led} {Q : Value → A0e → Led → Prop} {k : Nat}
theorem B0M {n nd fa ly la cu : Addr} {sn : Value} {lo i : Int} {t tl : Tok} {lv cv : List Value} {rows : List Row} {cuts : List (Int × Int)} {Z : Led} (hd : Low Γ k) (hk : k ≤ 560)
  (P : Pick [(nd, A3P fa ly la sn (.int lo tl) cu), (ly, .list lv), (cu, .list cv)] led R) (hC : Cut C Z R) (hn : (n, .inst 747 nd) ∈ R) (Pc : Pairs R cv cuts)
  (hl : RowsIn Z lv rows) (hz : lv.length ≤ 900)
  (q : ∀ v lv' rows' lo' tl', TakeRes Z i lv lv' rows rows' cuts v lo lo' → Q v vs ((nd, A3P fa ly la sn (.int lo' tl') cu) :: (ly, .list lv') :: (cu, .list cv) :: R)) :
  Run Γ vs led (call (.ref 685) [.ref n, .int i t]) Q := by
 refine Run.pick3 P ?_
 have hlen := hl.length
 by_cases he : lv = []
 ·have he' : rows = [] := by rw [he] at hlen; exact List.length_eq_zero_iff.mp hlen.symm
  subst he he'
  refine eF B2B B3b rfl hd hk [("self", some (.ref n)), ("k", some (.int i t)), ("row", none), ("to", none), ("frm", none)] ["len", "decode_message"] fun Γ' U hdp hwp => ?_
  refine xIf ?_
  refine A5n ?_
  refine A1F (Ea M0 (N3 hn) M0 M2 A0t rfl) rfl ?_
  refine A6p M1 (up0 hz rfl) ?_
  refine A2s rfl ?_
  refine A3h Eo ?_
  fail "k"
  exact A2a (by exact Sub.refl) (q _ _ [] _ _ ⟨.nil, .inl ⟨rfl, rfl, rfl, rfl⟩⟩)
 ·have hpos : (0 : Int) < lv.length := by have := List.length_pos_iff.mpr he; omega
  have h0 : 0 ≤ i.fmod lv.length := Int.fmod_nonneg_of_pos _ hpos
  have h1 : i.fmod lv.length < lv.length := Int.fmod_lt_of_pos _ hpos
  have hlt : (i.fmod lv.length).toNat < lv.length := by omega
  have hx0 := List.getElem?_eq_getElem hlt
  obtain ⟨row, hrow, r, m, t1, t2, t3, hr, hr1, hm⟩ := hl.at hx0
  rw [hr] at hx0
  have hr1' := hC.grow _ hr1
  have hr2 := hl.erase (i.fmod lv.length).toNat
  have hne := row.msg.ne
  rw [hlen] at hrow
  refine eF B2B B3b rfl hd hk [("self", some (.ref n)), ("k", some (.int i t)), ("row", none), ("to", none), ("frm", none)] ["len", "decode_message"] fun Γ' U hdp hwp => ?_
  refine xIf ?_
  refine A5n ?_
  refine A1F (Ea M0 (N3 hn) M0 M2 A0t rfl) rfl ?_
  refine A6p M1 (up0 hz rfl) ?_
  refine A0R (by fail "c3") ?_
  refine A0a ?_
  refine xAs rfl ?_
  refine rM' (Ea M0 (N3 hn) M0 M2 A0t rfl) (Gm.pop M1) rfl rfl rfl ?_
  refine A0k (Ar.bin (Ar.val (En M1)) (Ar.len (Eb A1n (Cx.Under.gl U) M0) (Ea M0 (N3 hn) M0 M2 A0t rfl) (Ln.list M1 (up0 hz rfl))) (Bo.mod (fun _ => (by omega)))) fun _ => ?_
  refine A0d ?_
  refine' B9p ?a hx0 (by omega) ?u ?_
  case u => exact U1
  case a => exact h0
  by_cases hin : (row.msg.frm, row.msg.to) ∈ cuts
  ·refine kAs V2 ?_
   refine A4Y (Ei (En M2) Ar.con (It.tup (N3 hr1') (by decide) (by decide) rfl (by intro _; with_unfolding_all rfl))) rfl V3 ?_
   refine A4Y (Ei (En M2) Ar.con (It.tup (N3 hr1') (by decide) (by decide) rfl (by intro _; with_unfolding_all rfl))) rfl V4 ?_
   refine xIf ?_
   refine A5n ?_
   refine A2t rfl ?_
   refine rM (En M0) (Gm.inst (N3 hn) M0 A2U rfl) (Evs.cons (En M4) (Evs.cons (En M3) Evs.nil)) rfl ?_
   refine B1Q hdp (up1 hk rfl) (N3 hn) M0 M2 (Pairs.grow (Grow.cons (Grow.cons (Grow.cons Grow.refl))) Pc) hne ?_
   refine A0c ?_
   refine A2s (by fail "c3") ?_
   refine xAt (En M0) (N3 hn) M0 M5 A1j rfl ?_
   refine rAr Ar.con fun _ => ?_
   refine A4P fun _ => ?_
   refine kSt (N3 hn) U0 F5 A1j A3j ?_
   refine A3h Eo ?_
   rw [hlen] at hr2
   refine' ⟨_, ?hs, q _ _ _ _ _ ⟨hr2, .inr ⟨row, hrow, rfl, .inl ⟨hin, rfl, rfl⟩⟩⟩⟩
   case hs => rw [hlen]; exact Sub.refl
  ·refine kAs V2 ?_
   refine A4Y (Ei (En M2) Ar.con (It.tup (N3 hr1') (by decide) (by decide) rfl (by intro _; with_unfolding_all rfl))) rfl V3 ?_
   refine A4Y (Ei (En M2) Ar.con (It.tup (N3 hr1') (by decide) (by decide) rfl (by intro _; with_unfolding_all rfl))) rfl V4 ?_
   refine xIf ?_
   refine A5n ?_
   refine A2t rfl ?_
   refine rM (En M0) (Gm.inst (N3 hn) M0 A2U rfl) (Evs.cons (En M4) (Evs.cons (En M3) Evs.nil)) rfl ?_
   refine B1Q hdp (up1 hk rfl) (N3 hn) M0 M2 (Pairs.grow (Grow.cons (Grow.cons (Grow.cons Grow.refl))) Pc) hne ?_
   refine A0c ?_
   refine A0R (by fail "c3") ?_
   refine A0a ?_
   refine xIf ?_
   refine A1F (Ea M0 (N3 hn) M0 M1 A2m rfl) rfl ?_
   refine A0c ?_
   refine A0R rfl ?_
   refine A0a ?_
   refine A3h (Ei (En M2) Ar.con (It.tup (N3 hr1') (by decide) (by decide) rfl (by intro _; with_unfolding_all rfl))) ?_
   rw [hlen] at hr2
   refine' ⟨_, ?hs, q _ _ _ _ _ ⟨hr2, .inr ⟨row, hrow, rfl, .inr ⟨hin, rfl, m, rfl, hm⟩⟩⟩⟩
   case hs => rw [hlen]; exact Sub.refl
theorem B9W {n nd fa ly la cu : Addr} {sn lo : Value} {lv : List Value} (hd : Low Γ k) (hk : k ≤ 580) (hn : (n, .inst 747 nd) ∈ led) (hf : (nd, A3P fa ly la sn lo cu) ∈ led) (hl : (ly, .list lv) ∈ led) (hz : lv.length ≤ 900)
  (q : ∀ t, Q (.int lv.length t) vs led) : Run Γ vs led (call (.ref 678) [.ref n]) Q := by
 refine eF B5W B7i rfl hd hk [("self", some (.ref n))] ["len"] fun Γ' U hdp hwp => ?_
 refine A1U ?_
 refine rAr (Ar.len (Eb A1n (Cx.Under.gl U) M0) (Ea M0 hn hf M2 A0t rfl) (Ln.list hl (up0 hz rfl))) fun _ => ?_
 fail "k"
 exact A2a (by exact Sub.refl) (q _)
theorem B9U {n nd fa ly la cu : Addr} {sn lo : Value} (hd : Low Γ k) (hk : k ≤ 580) (hn : (n, .inst 747 nd) ∈ led) (hf : (nd, A3P fa ly la sn lo cu) ∈ led) (hl : (ly, .list []) ∈ led) (ha : (la, .list []) ∈ led)
  (q : Q (.bool true) vs led) : Run Γ vs led (call (.ref 704) [.ref n]) Q := by
 refine eF B5U B7g rfl hd hk [("self", some (.ref n))] [] fun Γ' U hdp hwp => ?_
 refine A1U ?_
 refine A7Z ?_
 refine rUn ?_
 refine rE (Ea M0 hn hf M2 A0t rfl) ?_
 refine B5i ?_
 refine A6p hl (by decide) ?_
 refine A0c ?_
 refine A3N rfl ?_
 refine A4e ?_
 refine rUn ?_
 refine rE (Ea M0 hn hf M3 A1k rfl) ?_
 refine B5i ?_
 refine A6p ha (by decide) ?_
 fail "k"
 exact A2a (by exact Sub.refl) (q)
theorem B7Q {n nd fa ly la cu : Addr} {sn lo : Value} (hd : Low Γ k) (hk : k ≤ 580) (P : Pick [(nd, A3P fa ly la sn lo cu)] led R) (hn : (n, .inst 747 nd) ∈ R)
  (q : ∀ cu', Q .none vs ((nd, A3P fa ly la sn lo cu') :: (cu', .list []) :: R)) : Run Γ vs led (call (.ref 730) [.ref n]) Q := by
 refine Run.pick1 P ?_
 refine eF B5S B7e rfl hd hk [("self", some (.ref n))] [] fun Γ' U hdp hwp => ?_
 refine A4n rfl ?_
 refine A3r Evs.nil ?_
 refine A0o (by decide) fun _ => ?_
 refine A4A (En M0) (N2 hn) U1 F6 A1R A3j ?_
 refine A1x Eo rfl ?_
 refine A4A (En M0) (N2 hn) U1 F7 A3t A3j ?_
 refine A0a ?_
 refine A0n ?_
 fail "k"
 exact A2a (by exact Sub.cons E1 Sub.refl) (q _)
theorem B9S {n nd fa ly la cu : Addr} {sn lo : Value} {lv av : List Value} (hd : Low Γ k) (hk : k ≤ 580) (P : Pick [(nd, A3P fa ly la sn lo cu), (ly, .list lv), (la, .list av)] led R) (hn : (n, .inst 747 nd) ∈ R) (hz : lv.length ≤ 900) (hz2 : av.length ≤ 900)
  (q : ∀ fa' ly' la', Q .none vs ((nd, A3P fa' ly' la' sn lo cu) :: (ly', .list (lv ++ av)) :: (la', .list []) :: (fa', .list []) :: R)) : Run Γ vs led (call (.ref 737) [.ref n]) Q := by
 refine Run.pick3 P ?_
 refine eF B5R B7d rfl hd hk [("self", some (.ref n))] [] fun Γ' U hdp hwp => ?_
 refine A4n rfl ?_
 refine B1v (Ea M0 (N3 hn) M0 M2 A0t rfl) (Ea M0 (N3 hn) M0 M3 A1k rfl) ?_
 refine B2d M1 M2 (by omega) fun _ => ?_
 refine A4A (En M0) (N4 hn) U1 F2 A0t A3j ?_
 refine A4n rfl ?_
 refine A3r Evs.nil ?_
 refine A0o (by decide) fun _ => ?_
 refine A4A (En M0) (N5 hn) U2 F3 A1k A3j ?_
 refine A4n rfl ?_
 refine A3r Evs.nil ?_
 refine A0o (by decide) fun _ => ?_
 refine A4A (En M0) (N6 hn) U3 F0 A1X A3j ?_
 refine A0a ?_
 refine A0n ?_
 fail "k"
 exact A2a (by exact Sub.cons E3 (Sub.cons E2 (Sub.cons E1 (Sub.cons E0 (Sub.skip (Sub.skip Sub.refl)))))) (q _ _ _)
theorem B1R {n nd fa ly la cu : Addr} {sn lo : Value} {cv : List Value} {cuts : List (Int × Int)} {p q' : Int} {t u : Tok} {Z : Led} (hd : Low Γ k) (hk : k ≤ 580) (P : Pick [(nd, A3P fa ly la sn lo cu), (cu, .list cv)] led R) (hC : Cut C Z R) (hn : (n, .inst 747 nd) ∈ R) (Pc : Pairs Z cv cuts) (hz : cv.length ≤ 900)
  (q : ∀ R' cv' cuts', Grow Z R' → Pairs R' cv' cuts' → (∀ x, x ∈ cuts' ↔ x ∈ cuts ∨ x = (p, q')) → cv'.length ≤ cv.length + 1 → Q .none vs ((nd, A3P fa ly la sn lo cu) :: (cu, .list cv') :: (C ++ R'))) : Run Γ vs led (call (.ref 718) [.ref n, .int p t, .int q' u]) Q := by
 refine Run.pick2 P ?_
 have hZ := hC.grow
 obtain rfl := hC.eq
 by_cases hin : (p, q') ∈ cuts
 ·
  refine eF B2A B3a rfl hd hk [("self", some (.ref n)), ("frm", some (.int p t)), ("to", some (.int q' u))] [] fun Γ' U hdp hwp => ?_
  refine xIf ?_
  refine B5d rfl ?_
  refine A7m (Evs.cons (En M1) (Evs.cons (En M2) Evs.nil)) ?_
  refine A0q (by fail "c3") fun _ => ?_
  refine rE (Ea M0 (N3 hn) M1 M6 A1R rfl) ?_
  refine A5r (Low.units hdp (by omega)) M2 (Pairs.grow (Grow.cons (Grow.cons (Grow.cons hZ))) Pc) M0 ?_
  refine A0c ?_
  refine A0R (by fail "c3") ?_
  refine A0a ?_
  refine A0a ?_
  refine A0n ?_
  refine' ⟨_, ?hs, q Z cv cuts Grow.refl Pc (fun x => ⟨.inl, fun h => h.elim id fun e => e ▸ hin⟩) (by omega)⟩
  case hs => (refine' Sub.cons ?se ?ss; (case se => exact E1); (case ss => (refine' Sub.cons ?se ?ss; (case se => exact E1); (case ss => exact Sub.skip Sub.refl))))
 ·
  refine eF B2A B3a rfl hd hk [("self", some (.ref n)), ("frm", some (.int p t)), ("to", some (.int q' u))] [] fun Γ' U hdp hwp => ?_
  refine xIf ?_
  refine B5d rfl ?_
  refine A7m (Evs.cons (En M1) (Evs.cons (En M2) Evs.nil)) ?_
  refine A0q (by fail "c3") fun _ => ?_
  refine rE (Ea M0 (N3 hn) M1 M6 A1R rfl) ?_
  refine A5r (Low.units hdp (by omega)) M2 (Pairs.grow (Grow.cons (Grow.cons (Grow.cons hZ))) Pc) M0 ?_
  refine A0c ?_
  refine A2s (by fail "c3") ?_
  refine A1A rfl ?_
  refine rM' (Ea M0 (N3 hn) M1 M6 A1R rfl) (Gm.app M2) rfl rfl rfl ?_
  refine A0A rfl ?_
  refine A7m (Evs.cons (En M1) (Evs.cons (En M2) Evs.nil)) ?_
  refine A0q (by fail "c3") fun _ => ?_
  refine A0d ?_
  refine A0y U3 (up0 hz rfl) ?_
  refine A1B ?_
  refine A0a ?_
  refine A0a ?_
  refine A0n ?_
  rename_i a1 a2
  refine' ⟨_, ?hs, q ((a2, .tup [.int p t, .int q' u]) :: (a1, .tup [.int p t, .int q' u]) :: Z) (cv ++ [.ref a2]) (cuts ++ [(p, q')]) ?g ?P ?_ (by simp)⟩
  case hs =>
   refine' Sub.cons ?s1 (Sub.cons ?s2 ?s3)
   case s1 => exact E2
   case s2 => exact E2
   case s3 => exact Put.sub (A0H (A0H (A3l Cut.app)))
  case g => exact Grow.cons (Grow.cons Grow.refl)
  case P => exact A9R (Pc.grow (by exact Grow.cons (Grow.cons Grow.refl))) (.cons (.head _) .nil)
  intro x
  simp
theorem B9T {n nd fa ly la cu : Addr} {sn lo : Value} {cv : List Value} {cuts : List (Int × Int)} {p q' : Int} {t u : Tok} {Z : Led} (hd : Low Γ k) (hk : k ≤ 570) (P : Pick [(nd, A3P fa ly la sn lo cu), (cu, .list cv)] led R) (hC : Cut C Z R) (hn : (n, .inst 747 nd) ∈ R) (Pc : Pairs Z cv cuts) (hz : cv.length ≤ 800)
  (q : ∀ R' cv' cuts', Grow Z R' → Pairs R' cv' cuts' → (∀ x, x ∈ cuts' ↔ x ∈ cuts ∨ x = (p, q') ∨ x = (q', p)) → cv'.length ≤ cv.length + 2 → Q .none vs ((nd, A3P fa ly la sn lo cu) :: (cu, .list cv') :: (C ++ R'))) : Run Γ vs led (call (.ref 711) [.ref n, .int p t, .int q' u]) Q := by
 refine Run.pick2 P ?_
 have hZ := hC.grow
 obtain rfl := hC.eq
 refine eF B5T B7f rfl hd hk [("self", some (.ref n)), ("a", some (.int p t)), ("b", some (.int q' u))] [] fun Γ' U hdp hwp => ?_
 try (have hnp := U.nd.trans hn)
 refine A1A rfl ?_
 refine rM (En M0) (Gm.inst (N2 hn) M0 A2A rfl) (Evs.cons (En M1) (Evs.cons (En M2) Evs.nil)) rfl ?_
 refine B1R hdp (up1 hk rfl) (Pick.cons E0 (Pick.cons E0 Pick.nil)) hC hn Pc (up0 hz rfl) fun _ _ _ _ _ _ _ => ?_
 refine A1B ?_
 refine A1A rfl ?_
 refine rM (En M0) (Gm.inst (N2 (Grow.mem (Grow.app (by assumption)) hn)) M0 A2A rfl) (Evs.cons (En M2) (Evs.cons (En M1) Evs.nil)) rfl ?_
 refine B1R hdp (up1 hk rfl) (Pick.cons E0 (Pick.cons E0 Pick.nil)) Cut.app (Grow.mem (Grow.app (by assumption)) hn) (by assumption) (by omega) fun _ _ _ _ _ _ _ => ?_
 refine A1B ?_
 refine A0a ?_
 refine A0n ?_
 rename_i R1 cv1 cuts1 g1 P1 m1 z1 R2 cv2 cuts2 g2 P2 m2 z2
 refine' ⟨_, ?hs, q R2 cv2 cuts2 (g1.trans g2) P2 ?_ (by omega)⟩
 case hs => exact Sub.refl
 intro x
 rw [m2, m1]
 constructor
 ·rintro ((h | h) | h)
  ·exact .inl h
  ·exact .inr (.inl h)
  ·exact .inr (.inr h)
 ·rintro (h | h | h)
  ·exact .inl (.inl h)
  ·exact .inl (.inr h)
  ·exact .inr h
end
end Mine
namespace Mine
theorem RowsIn.snoc {R : Led} {a : List Value} {x : List Row} {v : Value} {row : Row} (h : RowsIn R a x) (h' : RowIn R v row) : RowsIn R (a ++ [v]) (x ++ [row]) := h.app (.one h')
theorem A2Z {α : Type} {l : List α} {i : Nat} {x : α} (h : l[i]? = some x) : l.take (i + 1) = l.take i ++ [x] := by
 rw [List.take_add_one, h]; rfl
section
variable {Γ : Cx} {vs : A0e} {led R C : Led} {Q : Value → A0e → Led → Prop} {k : Nat}
theorem B9V {n nd fa ly la cu : Addr} {sn : Value} {lo nid : Int} {t tl : Tok} {lv : List Value} {rows : List Row} {Z : Led} (hd : Low Γ k) (hk : k ≤ 580) (P : Pick [(nd, A3P fa ly la sn (.int lo tl) cu), (ly, .list lv), (la, .list [])] led R) (hC : Cut C Z R) (hn : (n, .inst 747 nd) ∈ R)
  (hl : RowsIn Z lv rows) (hz : lv.length ≤ 900)
  (q : ∀ ly' la' lv' lo' tl', RowsIn Z lv' (rows.filter fun r => decide (r.msg.to ≠ nid)) → Q .none vs ((nd, A3P fa ly' la' sn (.int lo' tl') cu) :: (ly', .list lv') :: (la', .list []) :: R)) : Run Γ vs led (call (.ref 697) [.ref n, .int nid t]) Q := by
 refine Run.pick3 P ?_
 refine Run.sub' (B4W (binds := [(.ofString "self", .ref n), (.ofString "nid", .int nid t)]) (lb := [(.ofString "self", .ref n)]) (A8m B5V B7h rfl) (hd.room (by omega)) (fun s _ => BindsTo.of_eq (by kernel_rfl)) (.ofString "nid") (some (.int nid t)) [.ofString "before"] [.ofString "len"] (fun _ => rfl) (by kernel_rfl) (by kernel_rfl) (by kernel_rfl) (by kernel_rfl) fun Γ' c U hcl => ?_)
 simp only [A0U, List.map_cons, List.map_nil, List.cons_append, List.nil_append]
 have hdp := U.low hd
 have hwp := U.w
 have hcs := U.cs
 refine xAs rfl ?_
 refine rAr (Ar.bin (Ar.len (Eb A1n (Cx.Under.gl U) M0) (Ea M0 (N4 hn) M1 M2 A0t rfl) (Ln.list M2 (up0 hz rfl))) (Ar.len (Eb A1n (Cx.Under.gl U) M0) (Ea M0 (N4 hn) M1 M3 A1k rfl) (Ln.list M3 (by decide))) Bo.add) fun _ => ?_
 refine kAs V1 ?_
 refine A4n rfl ?_
 refine' B1h (cl := [(.ofString "nid", c)]) (x := .ofString "row") (l := ly) (xs := lv) (fun i ys L => L = (c, LObj.cell (some (.int nid t))) :: (nd, A3P fa ly la sn (.int lo tl) cu) :: (ly, .list lv) :: (la, .list []) :: R ∧ RowsIn Z ys ((rows.take i).filter fun r => decide (r.msg.to ≠ nid))) (by omega) ?H ?hl ⟨rfl, .nil⟩ ?hJ ?E ?q ?hclos (by kernel_rfl) (by intro _; rfl)
 case hl => exact M2
 case H =>
  refine rE (Ea M0 (N4 hn) M1 M2 A0t rfl) ?_
  exact Stop.mk ⟨rfl, rfl, rfl⟩
 case hJ =>
  rintro i ys L ⟨rfl, _⟩
  exact M2
 case hclos => exact A6Y hcl rfl
 case E =>
  rintro i v ys L a C D hv ⟨rfl, hr⟩ hy
  obtain ⟨row, hrow, r, m, t1, t2, t3, rfl, hr1, hm⟩ := hl.at hv
  have hr1' := hC.grow _ hr1
  refine B1l ?_
  refine A4I (Ei (Ec M1 A6B rfl rfl rfl) Ar.con (It.tup (N7 hr1') (by decide) (by decide) rfl (by intro _; with_unfolding_all rfl))) rfl ?_
  refine B3E (c := c) (v := .int nid t) ?hm rfl rfl (by kernel_rfl) ((congrArg (fun s : Scope => s.names.lookup (.ofString "nid")) hcs).trans (by kernel_rfl)) (by decide) ?_
  case hm => exact M3
  refine kCm Cm.ne ?_
  refine ⟨fun hb => ?_, fun hb => ?_⟩
  ·refine rE (Ec M1 A6B rfl rfl rfl) ?_
   refine And.intro rfl ?_
   refine' ⟨_, ?s, rfl, ?r⟩
   case s => exact Sub.refl
   rw [A2Z hrow, List.filter_append]
   have e : List.filter (fun r : Row => decide (r.msg.to ≠ nid)) [row] = [row] := by simp only [List.filter_cons, hb, if_true, List.filter_nil]
   rw [e]
   exact hr.snoc ⟨r, m, t1, t2, t3, rfl, hr1, hm⟩
  ·refine ⟨rfl, _, .refl, rfl, ?_⟩
   rw [A2Z hrow, List.filter_append]
   have e : List.filter (fun r : Row => decide (r.msg.to ≠ nid)) [row] = [] := by simp only [List.filter_cons, hb, Bool.false_eq_true, if_false, List.filter_nil]
   rw [e, List.append_nil]
   exact hr
 case q =>
  rintro ys L D ⟨rfl, hr⟩ hy
  rw [List.take_of_length_le (Nat.le_of_eq hl.length.symm)] at hr
  refine A4A (En M0) (N5 hn) U2 F2 A0t A3j ?_
  refine A4n rfl ?_
  refine' B3C (cl := [(.ofString "nid", c)]) (x := .ofString "row") (l := la) ?H ?hl ?q ?hclos (by kernel_rfl) (by intro _; rfl)
  case hl => exact M4
  case H =>
   refine rE (Ea M0 (N5 hn) M2 M3 A1k rfl) ?_
   exact Stop.mk ⟨rfl, rfl, rfl⟩
  case hclos => exact A6Y hcl rfl
  case q =>
   intro D2
   refine A4A (En M0) (N6 hn) U3 F3 A1k A3j ?_
   refine xAt (En M0) (N6 hn) M3 M5 A1j rfl ?_
   refine rAr (Ar.bin (Ar.bin (Ar.val (En M1)) (Ar.len (Eb A1n (Cx.Under.gl U) M0) (Ea M0 (N6 hn) M3 M2 A0t rfl) (Ln.list M1 (by omega))) Bo.sub) (Ar.len (Eb A1n (Cx.Under.gl U) M0) (Ea M0 (N6 hn) M3 M3 A1k rfl) (Ln.list M0 (by decide))) Bo.sub) fun _ => ?_
   refine A4P fun _ => ?_
   refine kSt (N6 hn) U3 F5 A1j A3j ?_
   refine A0a ?_
   refine A0n ?_
   refine' ⟨_, ?hs, q _ _ _ _ _ hr⟩
   case hs => (refine' Sub.cons ?se ?ss; (case se => exact E3); (case ss => (refine' Sub.cons ?se ?ss; (case se => exact E1); (case ss => (refine' Sub.cons ?se ?ss; (case se => exact E0); (case ss => exact Sub.skip (Sub.skip (Sub.skip Sub.refl))))))))
theorem B9R {fa : Addr} {fv : List Value} {fs : List Int} (hd : Low Γ k) (hk : k ≤ 580) (hn : (fa, .list fv) ∈ led) (hi : IntsAre fv fs) (hz : fv.length ≤ 100)
  (q : ∀ n nd fa' ly la cu t1 t2, Q (.ref n) vs ((nd, A3P fa' ly la (.int 0 t1) (.int 0 t2) cu) :: (ly, .list []) :: (la, .list []) :: (cu, .list []) :: (n, .inst 747 nd) :: (fa', .list fv) :: led)) : Run Γ vs led (call (.ref 747) [.ref fa, .bool false]) Q := by
 refine eM A4b B5Y B7k rfl hd hk (fun x => [("self", some (.ref x)), ("fates", some (.ref fa)), ("wire", some (.bool false))]) [] fun x d Γ' U hdp hwp => ?_
 refine A4n rfl ?_
 refine' B1h (cl := []) (x := "fate") (l := fa) (xs := fv) (fun i ys L => L = (x, LObj.inst 747 d) :: (d, .flds []) :: led ∧ ys = fv.take i) (by omega) ?H ?hl ⟨rfl, rfl⟩ ?hJ ?E ?q (by with_unfolding_all rfl) (by kernel_rfl) (by intro _; rfl)
 case hl => exact N2 hn
 case H =>
  refine rE (En M1) ?_
  exact Stop.mk ⟨rfl, rfl, rfl⟩
 case hJ =>
  rintro i ys L ⟨rfl, _⟩
  exact N2 hn
 case E =>
  rintro i v ys L a C D hv ⟨rfl, rfl⟩ hy
  refine A4W ⟨fun _ => ?_, nofun⟩
  refine rE (Ec M1 A6B rfl rfl rfl) ?_
  refine And.intro rfl ?_
  refine' ⟨_, ?s, rfl, (A2Z hv).symm⟩
  case s => exact Sub.refl
 case q =>
  rintro ys L D ⟨rfl, rfl⟩ hy
  rw [List.take_length]
  refine A3i (En M0) M1 M2 A4b Snoc.nil rfl U2 A1X ?_
  refine A1x (En M2) rfl ?_
  refine A3i (En M0) M1 M2 A4b (Snoc.cons Snoc.nil) rfl U2 A2m ?_
  refine A4n rfl ?_
  refine A3r Evs.nil ?_
  refine A0o (by decide) fun _ => ?_
  refine A3i (En M0) M2 M3 A4b (Snoc.cons (Snoc.cons Snoc.nil)) rfl U3 A0t ?_
  refine A4n rfl ?_
  refine A3r Evs.nil ?_
  refine A0o (by decide) fun _ => ?_
  refine A3i (En M0) M3 M4 A4b (Snoc.cons (Snoc.cons (Snoc.cons Snoc.nil))) rfl U4 A1k ?_
  refine A4n rfl ?_
  refine rAr Ar.con fun _ => ?_
  refine A3i (En M0) M3 M4 A4b (Snoc.cons (Snoc.cons (Snoc.cons (Snoc.cons Snoc.nil)))) rfl U4 A1Q ?_
  refine A4n rfl ?_
  refine rAr Ar.con fun _ => ?_
  refine A3i (En M0) M3 M4 A4b (Snoc.cons (Snoc.cons (Snoc.cons (Snoc.cons (Snoc.cons Snoc.nil))))) rfl U4 A1j ?_
  refine A4n rfl ?_
  refine A3r Evs.nil ?_
  refine A0o (by decide) fun _ => ?_
  refine A3i (En M0) M4 M5 A4b (Snoc.cons (Snoc.cons (Snoc.cons (Snoc.cons (Snoc.cons (Snoc.cons Snoc.nil)))))) rfl U5 A1R ?_
  refine A1x Eo rfl ?_
  refine A3i (En M0) M4 M5 A4b (Snoc.cons (Snoc.cons (Snoc.cons (Snoc.cons (Snoc.cons (Snoc.cons (Snoc.cons Snoc.nil))))))) rfl U5 A3t ?_
  refine A0a ?_
  refine A0n ?_
  fail "kM"
  exact A6N (by exact Sub.cons E5 (Sub.cons E2 (Sub.cons E1 (Sub.cons E0 (Sub.cons E1 Sub.refl))))) (q _ _ _ _ _ _ _ _)
end
end Mine
namespace Mine
section
variable {Γ : Cx} {vs : A0e} {led R C : Led} {Q : Value → A0e → Led → Prop} {k : Nat} {w : World}
noncomputable abbrev A6d (rw : Addr) (x : Value) : LObj := .flds [("rows", .ref rw), ("weight", x)]
noncomputable abbrev A4o (nw ba : Addr) (kp la : Value) : LObj := .flds [("now", .ref nw), ("batches", .ref ba), ("kept", kp), ("last", la)]
theorem B9N (hd : Low Γ k) (hk : k ≤ 580) (q : ∀ b bd rw t, Q (.ref b) vs ((bd, A6d rw (.int 12 t)) :: (rw, .list []) :: (b, .inst 831 bd) :: led)) : Run Γ vs led (call (.ref 831) []) Q := by
 refine eM A2r B5Q B7c rfl hd hk (fun x => [("self", some (.ref x))]) ["BATCH_HEAD"] fun x d Γ' U hdp hwp => ?_
 refine A4n rfl ?_
 refine A3r Evs.nil ?_
 refine A0o (by decide) fun _ => ?_
 refine A3i (En M0) M1 M2 A2r Snoc.nil rfl U2 A1s ?_
 refine A1x (Eg A6V (Cx.Under.gl U) M0) rfl ?_
 refine A3i (En M0) M1 M2 A2r (Snoc.cons Snoc.nil) rfl U2 A0I ?_
 refine A0a ?_
 refine A0n ?_
 fail "kM"
 exact A6N (by exact Sub.cons E2 Sub.refl) (q _ _ _ _)
theorem B7O {b bd rw : Addr} {x : Int} {t t1 t2 t3 : Tok} {rv : List Value} {ops : List Op} {ky vl : By} (hd : Low Γ k) (hk : k ≤ 570) (P : Pick [(bd, A6d rw (.int x t)), (rw, .list rv)] led R) (hb : (b, .inst 831 bd) ∈ R) (ho : OpsIn R rv ops) (hz : rv.length ≤ 900) (h1 : ky.length < 128) (h2 : vl.length < 128)
  (q : ∀ R' rv' x' t', Grow R R' → OpsIn R' rv' (ops ++ [.put ky vl]) → Q .none vs ((bd, A6d rw (.int x' t')) :: (rw, .list rv') :: R')) : Run Γ vs led (call (.ref 786) [.ref b, .int 1 t1, .bytes ky.toArray t2, .bytes vl.toArray t3]) Q := by
 refine Run.pick2 P ?_
 refine eF B2y B2Y rfl hd hk [("self", some (.ref b)), ("kind", some (.int 1 t1)), ("key", some (.bytes ky.toArray t2)), ("value", some (.bytes vl.toArray t3))] ["varint_length", "len", "KIND_VALUE"] fun Γ' U hdp hwp => ?_
 refine xAt (En M0) (N2 hb) M0 M1 A0I rfl ?_
 refine A9Q ?_
 refine A9Q ?_
 refine rAr Ar.con fun _ => ?_
 refine rC' (Eg A2L (Cx.Under.gl U) M0) (Callee.fn B0o) rfl rfl ?_
 refine A0k (Ar.len (Eb A1n (Cx.Under.gl U) M1) (En M2) (Ln.byt (by fail "c1"))) fun _ => ?_
 refine A0d ?_
 refine B4z hdp (up1 hk rfl) (by omega) (by fail "c1") fun _ => ?_
 refine A8v fun _ => ?_
 refine rAr (Ar.len (Eb A1n (Cx.Under.gl U) M1) (En M2) (Ln.byt (by fail "c1"))) fun _ => ?_
 refine A8v fun _ => ?_
 refine A4P fun _ => ?_
 refine kSt (N2 hb) U0 F1 A0I A3D ?_
 refine xIf ?_
 refine A0g (Ar.val (En M1)) (Ar.val (Eg A1W (Cx.Under.gl U) M2)) rfl Ci.eq ?_
 refine A2s rfl ?_
 refine xAt (En M0) (N2 hb) M0 M1 A0I rfl ?_
 refine A9Q ?_
 refine rC' (Eg A2L (Cx.Under.gl U) M0) (Callee.fn B0o) rfl rfl ?_
 refine A0k (Ar.len (Eb A1n (Cx.Under.gl U) M1) (En M3) (Ln.byt (by fail "c1"))) fun _ => ?_
 refine A0d ?_
 refine B4z hdp (up1 hk rfl) (by omega) (by fail "c1") fun _ => ?_
 refine rAr (Ar.len (Eb A1n (Cx.Under.gl U) M1) (En M3) (Ln.byt (by fail "c1"))) fun _ => ?_
 refine A8v fun _ => ?_
 refine A4P fun _ => ?_
 refine kSt (N2 hb) U0 F1 A0I A3D ?_
 refine A0a ?_
 refine A1A rfl ?_
 refine rM' (Ea M0 (N2 hb) M0 M0 A1s rfl) (Gm.app M1) rfl rfl rfl ?_
 refine A0A rfl ?_
 refine A7m (Evs.cons (En M1) (Evs.cons (En M2) (Evs.cons (En M3) Evs.nil))) ?_
 refine A0q (by fail "c3") fun _ => ?_
 refine A0d ?_
 refine A0y U2 (up0 hz rfl) ?_
 refine A1B ?_
 refine A0a ?_
 refine A0n ?_
 rename_i a
 refine' ⟨_, ?hs, q ((a, .tup [.int 1 t1, .bytes ky.toArray t2, .bytes vl.toArray t3]) :: R) (rv ++ [.ref a]) _ _ ?g ((OpsIn.mono ?g ho).app (.cons ⟨a, t1, t2, t3, rfl, .head _⟩ .nil))⟩
 case hs => (refine' Sub.cons ?se ?ss; (case se => exact E1); (case ss => (refine' Sub.cons ?se ?ss; (case se => exact E1); (case ss => exact Sub.refl))))
 case g => exact Grow.cons Grow.refl
theorem B7P {b bd rw : Addr} {x : Int} {t t1 t2 t3 : Tok} {rv : List Value} {ops : List Op} {ky : By} (hd : Low Γ k) (hk : k ≤ 570) (P : Pick [(bd, A6d rw (.int x t)), (rw, .list rv)] led R) (hb : (b, .inst 831 bd) ∈ R) (ho : OpsIn R rv ops) (hz : rv.length ≤ 900) (h1 : ky.length < 128)
  (q : ∀ R' rv' x' t', Grow R R' → OpsIn R' rv' (ops ++ [.del ky]) → Q .none vs ((bd, A6d rw (.int x' t')) :: (rw, .list rv') :: R')) : Run Γ vs led (call (.ref 786) [.ref b, .int 0 t1, .bytes ky.toArray t2, .bytes #[] t3]) Q := by
 refine Run.pick2 P ?_
 refine eF B2y B2Y rfl hd hk [("self", some (.ref b)), ("kind", some (.int 0 t1)), ("key", some (.bytes ky.toArray t2)), ("value", some (.bytes #[] t3))] ["varint_length", "len", "KIND_VALUE"] fun Γ' U hdp hwp => ?_
 refine xAt (En M0) (N2 hb) M0 M1 A0I rfl ?_
 refine A9Q ?_
 refine A9Q ?_
 refine rAr Ar.con fun _ => ?_
 refine rC' (Eg A2L (Cx.Under.gl U) M0) (Callee.fn B0o) rfl rfl ?_
 refine A0k (Ar.len (Eb A1n (Cx.Under.gl U) M1) (En M2) (Ln.byt (by fail "c1"))) fun _ => ?_
 refine A0d ?_
 refine B4z hdp (up1 hk rfl) (by omega) (by fail "c1") fun _ => ?_
 refine A8v fun _ => ?_
 refine rAr (Ar.len (Eb A1n (Cx.Under.gl U) M1) (En M2) (Ln.byt (by fail "c1"))) fun _ => ?_
 refine A8v fun _ => ?_
 refine A4P fun _ => ?_
 refine kSt (N2 hb) U0 F1 A0I A3D ?_
 refine xIf ?_
 refine A0g (Ar.val (En M1)) (Ar.val (Eg A1W (Cx.Under.gl U) M2)) rfl Ci.eq ?_
 refine A0R rfl ?_
 refine A0a ?_
 refine A1A rfl ?_
 refine rM' (Ea M0 (N2 hb) M0 M0 A1s rfl) (Gm.app M1) rfl rfl rfl ?_
 refine A0A rfl ?_
 refine A7m (Evs.cons (En M1) (Evs.cons (En M2) (Evs.cons (En M3) Evs.nil))) ?_
 refine A0q (by fail "c3") fun _ => ?_
 refine A0d ?_
 refine A0y U2 (up0 hz rfl) ?_
 refine A1B ?_
 refine A0a ?_
 refine A0n ?_
 rename_i a
 refine' ⟨_, ?hs, q ((a, .tup [.int 0 t1, .bytes ky.toArray t2, .bytes #[] t3]) :: R) (rv ++ [.ref a]) _ _ ?g ((OpsIn.mono ?g ho).app (.cons ⟨a, t1, t2, t3, rfl, .head _⟩ .nil))⟩
 case hs => (refine' Sub.cons ?se ?ss; (case se => exact E1); (case ss => (refine' Sub.cons ?se ?ss; (case se => exact E1); (case ss => exact Sub.refl))))
 case g => exact Grow.cons Grow.refl
theorem A7c {b bd rw : Addr} {x : Int} {t t2 t3 : Tok} {rv : List Value} {ops : List Op} {ky vl : By} (hd : Low Γ k) (hk : k ≤ 560) (P : Pick [(bd, A6d rw (.int x t)), (rw, .list rv)] led R) (hb : (b, .inst 831 bd) ∈ R) (ho : OpsIn R rv ops) (hz : rv.length ≤ 900) (h1 : ky.length < 128) (h2 : vl.length < 128)
  (q : ∀ R' rv' x' t', Grow R R' → OpsIn R' rv' (ops ++ [.put ky vl]) → Q .none vs ((bd, A6d rw (.int x' t')) :: (rw, .list rv') :: R')) : Run Γ vs led (call (.ref 772) [.ref b, .bytes ky.toArray t2, .bytes vl.toArray t3]) Q := by
 refine Run.pick2 P ?_
 refine eF B5P B7b rfl hd hk [("self", some (.ref b)), ("key", some (.bytes ky.toArray t2)), ("value", some (.bytes vl.toArray t3))] ["KIND_VALUE", "bytes"] fun Γ' U hdp hwp => ?_
 refine A1A rfl ?_
 refine rM' (En M0) (Gm.inst (N2 hb) M0 A2F rfl) rfl rfl rfl ?_
 refine A0m (Eg A1W (Cx.Under.gl U) M0) ?_
 refine A0A rfl ?_
 refine rC (Eb A2f (Cx.Under.gl U) M1) Callee.ty (Evs.cons (En M1) Evs.nil) ?_
 refine A5A ?_
 refine A0A rfl ?_
 refine rC (Eb A2f (Cx.Under.gl U) M1) Callee.ty (Evs.cons (En M2) Evs.nil) ?_
 refine A5A ?_
 refine A0d ?_
 refine B7O hdp (up1 hk rfl) (Pick.cons E0 (Pick.cons E0 Pick.nil)) hb ho hz h1 h2 fun _ _ _ _ _ _ => ?_
 refine A1B ?_
 refine A0a ?_
 refine A0n ?_
 fail "k"
 exact A2a (by exact Sub.refl) (q _ _ _ _ (by assumption) (by assumption))
theorem B9Q {b bd rw : Addr} {x : Int} {t t2 : Tok} {rv : List Value} {ops : List Op} {ky : By} (hd : Low Γ k) (hk : k ≤ 560) (P : Pick [(bd, A6d rw (.int x t)), (rw, .list rv)] led R) (hb : (b, .inst 831 bd) ∈ R) (ho : OpsIn R rv ops) (hz : rv.length ≤ 900) (h1 : ky.length < 128)
  (q : ∀ R' rv' x' t', Grow R R' → OpsIn R' rv' (ops ++ [.del ky]) → Q .none vs ((bd, A6d rw (.int x' t')) :: (rw, .list rv') :: R')) : Run Γ vs led (call (.ref 779) [.ref b, .bytes ky.toArray t2]) Q := by
 refine Run.pick2 P ?_
 refine eF B5O B7a rfl hd hk [("self", some (.ref b)), ("key", some (.bytes ky.toArray t2))] ["KIND_DELETE", "bytes"] fun Γ' U hdp hwp => ?_
 refine A1A rfl ?_
 refine rM' (En M0) (Gm.inst (N2 hb) M0 A2F rfl) rfl rfl rfl ?_
 refine A0m (Eg A6k (Cx.Under.gl U) M0) ?_
 refine A0A rfl ?_
 refine rC (Eb A2f (Cx.Under.gl U) M1) Callee.ty (Evs.cons (En M1) Evs.nil) ?_
 refine A5A ?_
 refine A0A rfl ?_
 refine A1I fun _ => ?_
 refine A0d ?_
 refine B7P hdp (up1 hk rfl) (Pick.cons E0 (Pick.cons E0 Pick.nil)) hb ho hz h1 fun _ _ _ _ _ _ => ?_
 refine A1B ?_
 refine A0a ?_
 refine A0n ?_
 fail "k"
 exact A2a (by exact Sub.refl) (q _ _ _ _ (by assumption) (by assumption))
theorem B9P {b bd rw : Addr} {x : Value} {rv : List Value} (hd : Low Γ k) (hk : k ≤ 580) (hb : (b, .inst 831 bd) ∈ led) (hf : (bd, A6d rw x) ∈ led) (hr : (rw, .list rv) ∈ led) (hz : rv.length ≤ 900) (q : ∀ t, Q (.int rv.length t) vs led) : Run Γ vs led (call (.ref 800) [.ref b]) Q := by
 refine eF B5N B6Z rfl hd hk [("self", some (.ref b))] ["len"] fun Γ' U hdp hwp => ?_
 refine A1U ?_
 refine rAr (Ar.len (Eb A1n (Cx.Under.gl U) M0) (Ea M0 hb hf M0 A1s rfl) (Ln.list hr (up0 hz rfl))) fun _ => ?_
 fail "k"
 exact A2a (by exact Sub.refl) (q _)
theorem B9O {b bd rw : Addr} {x : Value} {rv : List Value} (hd : Low Γ k) (hk : k ≤ 580) (hb : (b, .inst 831 bd) ∈ led) (hf : (bd, A6d rw x) ∈ led) (hr : (rw, .list rv) ∈ led) (hz : rv.length ≤ 900) (q : ∀ l, Q (.ref l) vs ((l, .list rv) :: led)) : Run Γ vs led (call (.ref 821) [.ref b]) Q := by
 refine eF B5M B6Y rfl hd hk [("self", some (.ref b))] ["list"] fun Γ' U hdp hwp => ?_
 refine A1U ?_
 refine rC (Eb B4i (Cx.Under.gl U) M0) Callee.ty (Evs.cons (Ea M0 hb hf M0 A1s rfl) Evs.nil) ?_
 refine A7v hr (up0 hz rfl) fun _ => ?_
 fail "k"
 exact A2a (by exact Sub.refl) (q _)
theorem B7Y (hd : Low Γ k) (hk : k ≤ 580) (hw : Γ.w = w) (q : ∀ s sd nw ba t1 t2, Ok nw → Q (.ref s) vs ((sd, A4o nw ba (.int 0 t1) (.int 0 t2)) :: (nw, .bdict w []) :: (ba, .list []) :: (s, .inst 1132 sd) :: led)) : Run Γ vs led (call (.ref 1132) []) Q := by
 refine eM A2i B3X B4u rfl hd hk (fun x => [("self", some (.ref x))]) [] fun x d Γ' U hdp hwp => ?_
 have hwq := U.w.trans hw
 refine A4n rfl ?_
 refine B9y hwq fun _ _ => ?_
 refine A3i (En M0) M1 M2 A2i Snoc.nil rfl U2 A1d ?_
 refine A4n rfl ?_
 refine A3r Evs.nil ?_
 refine A0o (by decide) fun _ => ?_
 refine A3i (En M0) M2 M3 A2i (Snoc.cons Snoc.nil) rfl U3 A2R ?_
 refine A4n rfl ?_
 refine rAr Ar.con fun _ => ?_
 refine A3i (En M0) M2 M3 A2i (Snoc.cons (Snoc.cons Snoc.nil)) rfl U3 A5f ?_
 refine A4n rfl ?_
 refine rAr Ar.con fun _ => ?_
 refine A3i (En M0) M2 M3 A2i (Snoc.cons (Snoc.cons (Snoc.cons Snoc.nil))) rfl U3 A1Y ?_
 refine A0a ?_
 refine A0n ?_
 fail "kM"
 exact A6N (by exact Sub.cons E3 (Sub.cons E1 Sub.refl)) (q _ _ _ _ _ _ (by assumption))
theorem B3v {s sd nw ba : Addr} {kp la : Value} {kvs : List (By × Value)} {tab : Tab} {ky : By} {t : Tok} (hd : Low Γ k) (hk : k ≤ 580) (hw : Γ.w = w) (hs : (s, .inst 1132 sd) ∈ led) (hf : (sd, A4o nw ba kp la) ∈ led) (hn : (nw, .bdict w kvs) ∈ led) (lo : Ok nw) (hk' : KvIs kvs tab)
  (q : ∀ t', Q (ob ((get tab ky).map List.toArray) t') vs led) : Run Γ vs led (call (.ref 1115) [.ref s, .bytes ky.toArray t]) Q := by
 refine eF B3U B4r rfl hd hk [("self", some (.ref s)), ("key", some (.bytes ky.toArray t))] [] fun Γ' U hdp hwp => ?_
 have hwq := U.w.trans hw
 refine A1U ?_
 refine rM (Ea M0 hs hf M0 A1d rfl) (Gm.get' hwq hn) (Evs.cons (En M1) Evs.nil) rfl ?_
 refine B9z hwq hn lo ?_
 dsimp only
 rcases hk'.get ky with ⟨h1, h2⟩ | ⟨v, t', h1, h2⟩
 ·have h2' : PySem.valueAt kvs ky.toArray.toList = none := h2
  rw [h2']
  rw [h1] at q
  fail "k"
  exact A2a (by exact Sub.refl) (q 0)
 ·have h2' : PySem.valueAt kvs ky.toArray.toList = some (.bytes v.toArray t') := h2
  rw [h2']
  rw [h1] at q
  fail "k"
  exact A2a (by exact Sub.refl) (q t')
end
end Mine
namespace Mine
theorem A7D {t : Tab} {k : By} (h : get t k = none) : del t k = t := by
 unfold get at h
 unfold del
 rw [Option.map_eq_none_iff, List.find?_eq_none] at h
 rw [List.filter_eq_self]
 intro p hp
 have := h p hp
 simpa using this
theorem B3H (t : Tab) (k v : By) : (sto t k v).length ≤ t.length + 1 := by
 unfold sto
 split
 ·simp
 ·simp
theorem B4k (t : Tab) (k : By) : (del t k).length ≤ t.length := List.length_filter_le _ _
theorem B3J (t : Tab) (op : Op) : (op.run t).length ≤ t.length + 1 := by
 cases op with
 | put k v => exact B3H t k v
 | del k => exact Nat.le_succ_of_le (B4k t k)
section
variable {Γ : Cx} {vs : A0e} {led R C : Led} {Q : Value → A0e → Led → Prop} {k : Nat} {w : World}
theorem B7Z {s sd nw ba ol : Addr} {kp : Value} {la : Int} {tl : Tok} {kvs : List (By × Value)} {tab : Tab} {ov bv : List Value} {ops : List Op} (hd : Low Γ k) (hk : k ≤ 580) (hw : Γ.w = w) (P : Pick [(sd, A4o nw ba kp (.int la tl)), (nw, .bdict w kvs), (ba, .list bv)] led R)
  (hs : (s, .inst 1132 sd) ∈ R) (hol : (ol, .list ov) ∈ R) (ho : OpsIn R ov ops) (lo : Ok nw) (hkv : KvIs kvs tab) (hz : ov.length ≤ 100) (hz2 : bv.length ≤ 900) (hz3 : tab.length ≤ 100)
  (q : ∀ kvs' la' tl', KvIs kvs' (ops.foldl Op.run tab) → Q .none vs ((sd, A4o nw ba kp (.int la' tl')) :: (nw, .bdict w kvs') :: (ba, .list (bv ++ [.ref ol])) :: R)) : Run Γ vs led (call (.ref 1094) [.ref s, .ref ol]) Q := by
 refine Run.pick3 P ?_
 refine eF B3V B4s rfl hd hk [("self", some (.ref s)), ("ops", some (.ref ol)), ("kind", none), ("key", none), ("value", none)] ["KIND_VALUE", "len"] fun Γ' U hdp hwp => ?_
 have hwq := U.w.trans hw
 refine B1i (l := ol) (xs := ov) (fun i vs' L => ∃ o1 o2 o3 kvs', vs' = [(.ofString "self", some (.ref s)), (.ofString "ops", some (.ref ol)), (.ofString "kind", o1), (.ofString "key", o2), (.ofString "value", o3)] ∧ L = (sd, A4o nw ba kp (.int la tl)) :: (nw, .bdict w kvs') :: (ba, .list bv) :: R ∧
  KvIs kvs' ((ops.take i).foldl Op.run tab) ∧ ((ops.take i).foldl Op.run tab).length ≤ tab.length + i) ?H ?hJ ?turn ?done (by intro _; rfl)
 case H =>
  refine rE (En M1) ?_
  exact Stop.mk ⟨rfl, by exact N3 hol, _, _, _, kvs, rfl, rfl, hkv, Nat.le_refl _⟩
 case hJ =>
  rintro i vs' L ⟨o1, o2, o3, kvs', rfl, rfl, _⟩
  exact N3 hol
 case turn =>
  rintro i v vs' L a hv ⟨o1, o2, o3, kvs', rfl, rfl, h1, h2⟩
  obtain ⟨op, hop, r, t1, t2, t3, rfl, hr⟩ := ho.at hv
  have hil := (List.getElem?_eq_some_iff.mp hv).1
  have hz4 : kvs'.length ≤ 1000 := by rw [h1.length]; omega
  have h3 := B3J ((ops.take i).foldl Op.run tab) op
  have htk : (ops.take (i + 1)).foldl Op.run tab = op.run ((ops.take i).foldl Op.run tab) := by rw [A2Z hop, List.foldl_append]; rfl
  refine ⟨r, rfl, ?_⟩
  cases op with
  | put ky vl =>
   replace hr : (r, LObj.tup [.int 1 t1, .bytes ky.toArray t2, .bytes vl.toArray t3]) ∈ R := hr
   refine A1O (N4 hr) rfl rfl ?_
   refine A0Y ?_
   refine A0b V2 ?_
   refine A0Y ?_
   refine A0b V3 ?_
   refine A0Y ?_
   refine A0b V4 ?_
   refine A4X ?_
   refine xIf ?_
   refine A0g (Ar.val (En M2)) (Ar.val (Eg A1W (Cx.Under.gl U) M0)) rfl Ci.eq ?_
   refine A2s rfl ?_
   refine xSi rfl ?_
   refine rE (En M4) ?_
   refine rE (Ea M0 (N4 hs) M1 M0 A1d rfl) ?_
   refine rE (En M3) ?_
   refine B9x hwq hz4 U2 ?_
   refine A0a ?_
   refine A0a ?_
   refine A0n ?_
   dsimp only
   refine' ⟨_, ?hs, _, _, _, _, rfl, rfl, ?hk, ?hl⟩
   case hs => exact Sub.refl
   case hk => rw [htk]; exact h1.sto ky vl t3
   case hl => rw [htk]; omega
  | del ky =>
   replace hr : (r, LObj.tup [.int 0 t1, .bytes ky.toArray t2, .bytes #[] t3]) ∈ R := hr
   rcases h1.get ky with ⟨g1, g2⟩ | ⟨v, t', g1, g2⟩
   ·have g2' : (PySem.valueAt kvs' ky.toArray.toList).isSome = false := by
     rw [show PySem.valueAt kvs' ky.toArray.toList = none from g2]; rfl
    refine A1O (N4 hr) rfl rfl ?_
    refine A0Y ?_
    refine A0b V2 ?_
    refine A0Y ?_
    refine A0b V3 ?_
    refine A0Y ?_
    refine A0b V4 ?_
    refine A4X ?_
    refine xIf ?_
    refine A0g (Ar.val (En M2)) (Ar.val (Eg A1W (Cx.Under.gl U) M0)) rfl Ci.eq ?_
    refine A0R rfl ?_
    refine xIf ?_
    refine A4I (En M3) rfl ?_
    refine rE (Ea M0 (N4 hs) M1 M0 A1d rfl) ?_
    refine e_in hwq M2 lo ?_
    refine A0c ?_
    refine A0R (by assumption) ?_
    refine A0a ?_
    refine A0a ?_
    refine A0a ?_
    refine A0n ?_
    dsimp only
    refine' ⟨_, ?hs, _, _, _, _, rfl, rfl, ?hk, ?hl⟩
    case hs => exact Sub.refl
    case hk => rw [htk]; show KvIs kvs' (del _ ky); rw [A7D g1]; exact h1
    case hl => rw [htk]; omega
   ·have g2' : (PySem.valueAt kvs' ky.toArray.toList).isSome = true := by
     rw [show PySem.valueAt kvs' ky.toArray.toList = some (.bytes v.toArray t') from g2]; rfl
    refine A1O (N4 hr) rfl rfl ?_
    refine A0Y ?_
    refine A0b V2 ?_
    refine A0Y ?_
    refine A0b V3 ?_
    refine A0Y ?_
    refine A0b V4 ?_
    refine A4X ?_
    refine xIf ?_
    refine A0g (Ar.val (En M2)) (Ar.val (Eg A1W (Cx.Under.gl U) M0)) rfl Ci.eq ?_
    refine A0R rfl ?_
    refine xIf ?_
    refine A4I (En M3) rfl ?_
    refine rE (Ea M0 (N4 hs) M1 M0 A1d rfl) ?_
    refine e_in hwq M2 lo ?_
    refine A0c ?_
    refine A2s (by assumption) ?_
    refine B2g ?_
    refine rE (Ea M0 (N4 hs) M1 M0 A1d rfl) ?_
    refine rE (En M3) ?_
    refine' B9A ?hw ?z g2' ?u ?_
    case u => exact U2
    case hw => assumption
    case z => assumption
    refine A0a ?_
    refine A0a ?_
    refine A0a ?_
    refine A0n ?_
    dsimp only
    refine' ⟨_, ?hs, _, _, _, _, rfl, rfl, ?hk, ?hl⟩
    case hs => exact Sub.refl
    case hk => rw [htk]; exact h1.del ky
    case hl => rw [htk]; omega
 case done =>
  rintro vs' L ⟨o1, o2, o3, kvs', rfl, rfl, h1, h2⟩
  rw [List.take_of_length_le (Nat.le_of_eq ho.length.symm)] at h1
  refine A1A rfl ?_
  refine rM (Ea M0 (N3 hs) M0 M1 A2R rfl) (Gm.app M2) (Evs.cons (En M1) Evs.nil) rfl ?_
  refine A0y U2 (up0 hz2 rfl) ?_
  refine A1B ?_
  refine xAt (En M0) (N3 hs) M0 M3 A1Y rfl ?_
  refine rAr (Ar.len (Eb A1n (Cx.Under.gl U) M1) (En M1) (Ln.list (N3 hol) (up0 hz rfl))) fun _ => ?_
  refine A4P fun _ => ?_
  refine kSt (N3 hs) U0 F3 A1Y A8c ?_
  refine A0a ?_
  refine A0n ?_
  fail "k"
  exact A2a (by exact Sub.refl) (q _ _ _ h1)
theorem B8a {s sd nw ba b bd rw : Addr} {kp : Value} {la : Int} {x : Value} {tl : Tok} {kvs : List (By × Value)} {tab : Tab} {rv bv : List Value} {ops : List Op} (hd : Low Γ k) (hk : k ≤ 570) (hw : Γ.w = w) (P : Pick [(sd, A4o nw ba kp (.int la tl)), (nw, .bdict w kvs), (ba, .list bv)] led R)
  (hs : (s, .inst 1132 sd) ∈ R) (hb : (b, .inst 831 bd) ∈ R) (hf : (bd, A6d rw x) ∈ R) (hr : (rw, .list rv) ∈ R) (ho : OpsIn R rv ops) (lo : Ok nw) (hkv : KvIs kvs tab) (hz0 : rv.length ≠ 0) (hz : rv.length ≤ 100) (hz2 : bv.length ≤ 900) (hz3 : tab.length ≤ 100)
  (q : ∀ kvs' bv' la' tl' t, KvIs kvs' (ops.foldl Op.run tab) → bv'.length = bv.length + 1 → Q (.int la' t) vs ((sd, A4o nw ba kp (.int la' tl')) :: (nw, .bdict w kvs') :: (ba, .list bv') :: R)) : Run Γ vs led (call (.ref 1087) [.ref s, .ref b, .bool false]) Q := by
 refine Run.pick3 P ?_
 refine eF B3W B4t rfl hd hk [("self", some (.ref s)), ("batch", some (.ref b)), ("sync", some (.bool false))] ["BatchRefused"] fun Γ' U hdp hwp => ?_
 have hwq := U.w.trans hw
 refine xIf ?_
 refine B5d rfl ?_
 refine rM (En M1) (Gm.inst (N3 hb) (N3 hf) A4z rfl) Evs.nil rfl ?_
 refine B9P hdp (up1 hk rfl) (N3 hb) (N3 hf) (N3 hr) (up0 hz rfl) fun _ => ?_
 refine rAr Ar.con fun _ => ?_
 refine kCm Cm.eq ?_
 refine A0R (by fail "c3") ?_
 refine A0a ?_
 refine A1A rfl ?_
 refine rM' (En M0) (Gm.inst (N3 hs) M0 A5t rfl) rfl rfl rfl ?_
 refine A0A rfl ?_
 refine rM (En M1) (Gm.inst (N3 hb) (N3 hf) A5b rfl) Evs.nil rfl ?_
 refine B9O hdp (up1 hk rfl) (N3 hb) (N3 hf) (N3 hr) (up0 hz rfl) fun _ => ?_
 refine A0d ?_
 refine B7Z hdp (up1 hk rfl) hwq (Pick.cons E1 (Pick.cons E1 (Pick.cons E1 Pick.nil))) (N1 hs) M0 (OpsIn.mono (Grow.cons Grow.refl) ho) lo hkv hz hz2 hz3 fun _ _ _ _ => ?_
 refine A1B ?_
 refine xIf ?_
 refine A1F (En M2) rfl ?_
 refine A0c ?_
 refine A0R rfl ?_
 refine A0a ?_
 refine A3h (Ea M0 (N4 hs) M0 M3 A1Y rfl) ?_
 fail "k"
 exact A2a (by exact Sub.cons E0 (Sub.cons E0 (Sub.cons E0 (Sub.skip Sub.refl)))) (q _ _ _ _ _ (by assumption) (by simp))
end
end Mine
namespace Mine
noncomputable def may : Option By → By
 | none => [0]
 | some b => 1 :: b.length.toUInt8 :: b
noncomputable def dk : By := [100, 107]
noncomputable def A3C (kind : Int) (val : By) (exp old : Option By) : List Op :=
 if kind = 5 then [] else if kind = 1 then [.put dk val] else if kind = 2 then (if old.isSome then [.del dk] else [])
 else if kind = 3 then (if old = exp then [.put dk val] else []) else [.put dk (old.getD [] ++ val)]
noncomputable def A3B (kind : Int) (exp old : Option By) : By :=
 if kind = 5 then [0, 0] else (if kind = 3 ∧ old ≠ exp then 1 else 0) :: may old
noncomputable def obl (o : Option By) (t : Tok) : Value := ob (o.map List.toArray) t
section
variable {Γ : Cx} {vs : A0e} {led R C : Led} {Q : Value → A0e → Led → Prop} {k : Nat} {w : World}
theorem A4F {s sd nw ba : Addr} {kp la : Value} {kvs : List (By × Value)} {tab : Tab} {ky : By} {t : Tok} (hd : Low Γ k) (hk : k ≤ 580) (hw : Γ.w = w) (hs : (s, .inst 1132 sd) ∈ led) (hf : (sd, A4o nw ba kp la) ∈ led) (hn : (nw, .bdict w kvs) ∈ led) (lo : Ok nw) (hk' : KvIs kvs tab) (h : get tab ky = none)
  (q : Q .none vs led) : Run Γ vs led (call (.ref 1115) [.ref s, .bytes ky.toArray t]) Q := B3v hd hk hw hs hf hn lo hk' (fun t' => by rw [h]; exact q)
theorem A4c {s sd nw ba : Addr} {kp la : Value} {kvs : List (By × Value)} {tab : Tab} {ky v : By} {t : Tok} (hd : Low Γ k) (hk : k ≤ 580) (hw : Γ.w = w) (hs : (s, .inst 1132 sd) ∈ led) (hf : (sd, A4o nw ba kp la) ∈ led) (hn : (nw, .bdict w kvs) ∈ led) (lo : Ok nw) (hk' : KvIs kvs tab) (h : get tab ky = some v)
  (q : ∀ t, Q (.bytes v.toArray t) vs led) : Run Γ vs led (call (.ref 1115) [.ref s, .bytes ky.toArray t]) Q := B3v hd hk hw hs hf hn lo hk' (fun t' => by rw [h]; exact q t')
theorem B1Y (hd : Low Γ k) (hk : k ≤ 590) (q : Q (.bool true) vs led) : Run Γ vs led (call (.ref 1066) [.none, .none]) Q := A8W (a := none) (b := none) (t := 0) (u := 0) hd hk q
theorem B1X {b : Array UInt8} {u : Tok} (hd : Low Γ k) (hk : k ≤ 590) (q : Q (.bool false) vs led) : Run Γ vs led (call (.ref 1066) [.none, .bytes b u]) Q := A8W (a := none) (b := some b) (t := 0) (u := u) hd hk q
theorem B1W {a : Array UInt8} {t : Tok} (hd : Low Γ k) (hk : k ≤ 590) (q : Q (.bool false) vs led) : Run Γ vs led (call (.ref 1066) [.bytes a t, .none]) Q := A8W (a := some a) (b := none) (t := t) (u := 0) hd hk q
theorem A8V {a b : Array UInt8} {t u : Tok} (hd : Low Γ k) (hk : k ≤ 590) (q : Q (.bool (decide (a = b))) vs led) : Run Γ vs led (call (.ref 1066) [.bytes a t, .bytes b u]) Q := A8W (a := some a) (b := some b) (t := t) (u := u) hd hk (by simpa using q)
noncomputable abbrev A5z (st : Addr) (ap tm du : Value) (t : Tok) : LObj := .flds [("store", .ref st), ("applied", ap), ("term", tm), ("conf_octets", .bytes #[] t), ("durable", du), ("sync_each", .bool false)]
theorem B8b {s : Addr} (hd : Low Γ k) (hk : k ≤ 590) (q : ∀ m md t1 t2 t3 t4, Q (.ref m) vs ((md, A5z s (.int 0 t1) (.int 0 t2) (.int 0 t3) t4) :: (m, .inst 1055 md) :: led)) : Run Γ vs led (call (.ref 1055) [.ref s]) Q := by
 refine eM A1Z B5F B6R rfl hd hk (fun x => [("self", some (.ref x)), ("store", some (.ref s))]) [] fun x d Γ' U hdp hwp => ?_
 refine A1x (En M1) rfl ?_
 refine A3i (En M0) M0 M1 A1Z Snoc.nil rfl U1 A0i ?_
 refine A4n rfl ?_
 refine rAr Ar.con fun _ => ?_
 refine A3i (En M0) M0 M1 A1Z (Snoc.cons Snoc.nil) rfl U1 A1u ?_
 refine A4n rfl ?_
 refine rAr Ar.con fun _ => ?_
 refine A3i (En M0) M0 M1 A1Z (Snoc.cons (Snoc.cons Snoc.nil)) rfl U1 A2g ?_
 refine A4n rfl ?_
 refine A1I fun _ => ?_
 refine A3i (En M0) M0 M1 A1Z (Snoc.cons (Snoc.cons (Snoc.cons Snoc.nil))) rfl U1 A1b ?_
 refine A4n rfl ?_
 refine rAr Ar.con fun _ => ?_
 refine A3i (En M0) M0 M1 A1Z (Snoc.cons (Snoc.cons (Snoc.cons (Snoc.cons Snoc.nil)))) rfl U1 A4D ?_
 refine A1x Et rfl ?_
 refine A3i (En M0) M0 M1 A1Z (Snoc.cons (Snoc.cons (Snoc.cons (Snoc.cons (Snoc.cons Snoc.nil))))) rfl U1 A1S ?_
 refine A0a ?_
 refine A0n ?_
 fail "kM"
 exact A6N (by exact Sub.cons E1 Sub.refl) (q _ _ _ _ _ _)
theorem B3x {m md s sd nw ba : Addr} {ap tm du kp la : Value} {kvs : List (By × Value)} {tab : Tab} {t tc : Tok} (hd : Low Γ k) (hk : k ≤ 570) (hw : Γ.w = w) (hm : (m, .inst 1055 md) ∈ led) (hmf : (md, A5z s ap tm du tc) ∈ led) (hs : (s, .inst 1132 sd) ∈ led) (hf : (sd, A4o nw ba kp la) ∈ led) (hn : (nw, .bdict w kvs) ∈ led) (lo : Ok nw) (hk' : KvIs kvs tab)
  (q : ∀ t, Q (obl (get tab dk) t) vs led) : Run Γ vs led (call (.ref 1017) [.ref m, .bytes #[107] t]) Q := by
 cases hg : get tab dk with
 | none =>
  have hg' : get tab [100, 107] = none := hg
  rw [hg] at q
  refine eF B0g B0I rfl hd hk [("self", some (.ref m)), ("key", some (.bytes #[107] t))] ["data_key"] fun Γ' U hdp hwp => ?_
  have hwq := U.w.trans hw
  refine A1U ?_
  refine rM' (Ea M0 hm hmf M0 A0i rfl) (Gm.inst hs hf A0s rfl) rfl rfl rfl ?_
  refine A0A rfl ?_
  refine rC (Eg A1f (Cx.Under.gl U) M0) (Callee.fn A3v) (Evs.cons (En M1) Evs.nil) ?_
  refine A5j hdp (up1 hk rfl) fun _ => ?_
  refine A0d ?_
  refine A4F hdp (up1 hk rfl) hwq hs hf hn lo hk' hg' ?_
  fail "k"
  exact A2a (by exact Sub.refl) (q 0)
 | some v =>
  have hg' : get tab [100, 107] = some v := hg
  rw [hg] at q
  refine eF B0g B0I rfl hd hk [("self", some (.ref m)), ("key", some (.bytes #[107] t))] ["data_key"] fun Γ' U hdp hwp => ?_
  have hwq := U.w.trans hw
  refine A1U ?_
  refine rM' (Ea M0 hm hmf M0 A0i rfl) (Gm.inst hs hf A0s rfl) rfl rfl rfl ?_
  refine A0A rfl ?_
  refine rC (Eg A1f (Cx.Under.gl U) M0) (Callee.fn A3v) (Evs.cons (En M1) Evs.nil) ?_
  refine A5j hdp (up1 hk rfl) fun _ => ?_
  refine A0d ?_
  refine A4c hdp (up1 hk rfl) hwq hs hf hn lo hk' hg' fun _ => ?_
  fail "k"
  exact A2a (by exact Sub.refl) (q _)
theorem B4M {m md s c cd b bd rw : Addr} {ap tm du : Value} {tc t1 t2 t3 t4 t5 tb : Tok} {num x : Int} {rv : List Value} {ops : List Op} (hd : Low Γ k) (hk : k ≤ 540) (hnd : Γ.nd = true)
  (P : Pick [(bd, A6d rw (.int x tb)), (rw, .list rv)] led R) (hm : (m, .inst 1055 md) ∈ R) (hmf : (md, A5z s ap tm du tc) ∈ R) (hb : (b, .inst 831 bd) ∈ R) (hc : (c, .inst 873 cd) ∈ R) (hcf : (cd, A8o (.int 5 t1) (.int 9 t2) (.int num t3) (.bytes #[] t4) (.bytes #[] t5) .none) ∈ R) (ho : OpsIn R rv ops)
  (q : ∀ t, Q (.bytes #[0, 0] t) vs ((bd, A6d rw (.int x tb)) :: (rw, .list rv) :: R)) : Run Γ vs led (call (.ref 1010) [.ref m, .ref c, .ref b]) Q := by
 have hn := hnd
 refine Run.pick2 P ?_
 refine eF A2K A2O rfl hd hk [("self", some (.ref m)), ("command", some (.ref c)), ("batch", some (.ref b)), ("kind", none), ("place", none), ("old", none)] ["CMD_NONE", "CMD_OPEN", "CMD_CLOSE", "make_reply", "REPLY_OK", "data_key", "CMD_PUT", "CMD_DELETE", "CMD_CAS", "same_maybe", "REPLY_NO"] fun Γ' U hdp hwp => ?_
 have hnp := U.nd.trans hn
 refine A4Y (Ea M1 (N2 hc) (N2 hcf) M0 A0h rfl) rfl V3 ?_
 refine xIf ?_
 refine tOr ?_
 refine A0g (Ar.val (En M3)) (Ar.val (Eg A0Z (Cx.Under.gl U) M0)) rfl Ci.eq ?_
 refine A1D rfl ?_
 refine tOr ?_
 refine A0g (Ar.val (En M3)) (Ar.val (Eg A1g (Cx.Under.gl U) M1)) rfl Ci.eq ?_
 refine A3N rfl ?_
 refine A2s rfl ?_
 refine A1U ?_
 refine rC (Eg A0L (Cx.Under.gl U) M3) (Callee.fn A3w) (Evs.cons (Eg A1G (Cx.Under.gl U) M4) (Evs.cons Eo Evs.nil)) ?_
 refine A5X hdp (up1 hk rfl) hnp (by decide) (by decide) fun _ => ?_
 fail "k"
 exact A2a (by exact Sub.refl) (q _)
theorem A6y {n : Int} {t u : Tok} {c : By} (hd : Low Γ k) (hk : k ≤ 560) (hn : Γ.nd = true) (h0 : 0 ≤ n) (h1 : n < 256) (hc : c.length < 128) (q : ∀ t, Q (.bytes (n.toNat.toUInt8 :: 1 :: c.length.toUInt8 :: c).toArray t) vs led) : Run Γ vs led (call (.ref 905) [.int n t, .bytes c.toArray u]) Q :=
 B7H hd hk hn h0 h1 (by simpa using hc) fun t => by
  have e : (#[n.toNat.toUInt8, 1, c.toArray.size.toUInt8] ++ c.toArray : Array UInt8) = (n.toNat.toUInt8 :: 1 :: c.length.toUInt8 :: c).toArray := by simp
  rw [e]; exact q t
set_option maxHeartbeats 8000000 in
theorem B8c {m md s sd nw ba c cd b bd rw : Addr} {ap tm du kp la : Value} {kvs : List (By × Value)} {tab : Tab} {tc t1 t2 t3 t4 t5 t6 tb : Tok} {num x kd : Int} {val : By} {exp : Option By} {rv : List Value} {ops : List Op} (hd : Low Γ k) (hk : k ≤ 540) (hnd : Γ.nd = true) (hw : Γ.w = w)
  (P : Pick [(bd, A6d rw (.int x tb)), (rw, .list rv)] led R) (hm : (m, .inst 1055 md) ∈ R) (hmf : (md, A5z s ap tm du tc) ∈ R) (hs : (s, .inst 1132 sd) ∈ R) (hsf : (sd, A4o nw ba kp la) ∈ R) (hnw : (nw, .bdict w kvs) ∈ R) (hb : (b, .inst 831 bd) ∈ R) (hc : (c, .inst 873 cd) ∈ R)
  (hcf : (cd, A8o (.int kd t1) (.int 9 t2) (.int num t3) (.bytes #[107] t4) (.bytes val.toArray t5) (obl exp t6)) ∈ R) (ho : OpsIn R rv ops) (lo : Ok nw) (hkv : KvIs kvs tab)
  (hkd : kd = 1 ∨ kd = 2 ∨ kd = 3 ∨ kd = 4) (hv : val.length < 60) (hold : ∀ v, get tab dk = some v → v.length < 60) (hz : rv.length ≤ 900)
  (q : ∀ R' rv' x' tb' t, Grow R R' → OpsIn R' rv' (ops ++ A3C kd val exp (get tab dk)) → Q (.bytes (A3B kd exp (get tab dk)).toArray t) vs ((bd, A6d rw (.int x' tb')) :: (rw, .list rv') :: R')) : Run Γ vs led (call (.ref 1010) [.ref m, .ref c, .ref b]) Q := by
 have hn := hnd
 refine Run.pick2 P ?_
 cases hg : get tab dk with
 | none =>
  have hg' : get tab [100, 107] = none := hg
  rw [hg] at q
  rcases hkd with rfl | rfl | rfl | rfl
  ·
   refine eF A2K A2O rfl hd hk [("self", some (.ref m)), ("command", some (.ref c)), ("batch", some (.ref b)), ("kind", none), ("place", none), ("old", none)] ["CMD_NONE", "CMD_OPEN", "CMD_CLOSE", "make_reply", "REPLY_OK", "data_key", "CMD_PUT", "CMD_DELETE", "CMD_CAS", "same_maybe", "REPLY_NO"] fun Γ' U hdp hwp => ?_
   have hnp := U.nd.trans hn
   have hwq := U.w.trans hw
   refine A4Y (Ea M1 (N2 hc) (N2 hcf) M0 A0h rfl) rfl V3 ?_
   refine xIf ?_
   refine tOr ?_
   refine A0g (Ar.val (En M3)) (Ar.val (Eg A0Z (Cx.Under.gl U) M0)) rfl Ci.eq ?_
   refine A1D rfl ?_
   refine tOr ?_
   refine A0g (Ar.val (En M3)) (Ar.val (Eg A1g (Cx.Under.gl U) M1)) rfl Ci.eq ?_
   refine A1D rfl ?_
   refine tOr ?_
   refine A0g (Ar.val (En M3)) (Ar.val (Eg A0z (Cx.Under.gl U) M2)) rfl Ci.eq ?_
   refine A1D rfl ?_
   refine A0W ?_
   refine A0R rfl ?_
   refine A0a ?_
   refine xAs rfl ?_
   refine rC (Eg A1f (Cx.Under.gl U) M5) (Callee.fn A3v) (Evs.cons (Ea M1 (N2 hc) (N2 hcf) M3 A0w rfl) Evs.nil) ?_
   refine A5j hdp (up1 hk rfl) fun _ => ?_
   refine kAs V4 ?_
   refine xAs rfl ?_
   refine rM (Ea M0 (N2 hm) (N2 hmf) M0 A0i rfl) (Gm.inst (N2 hs) (N2 hsf) A0s rfl) (Evs.cons (En M4) Evs.nil) rfl ?_
   refine A4F hdp (up1 hk rfl) hwq (N2 hs) (N2 hsf) (N2 hnw) lo hkv hg' ?_
   refine kAs V5 ?_
   refine xIf ?_
   refine A0g (Ar.val (En M3)) (Ar.val (Eg A1C (Cx.Under.gl U) M6)) rfl Ci.eq ?_
   refine A2s rfl ?_
   refine A1A rfl ?_
   refine rM (En M2) (Gm.inst (N2 hb) M0 A0K rfl) (Evs.cons (En M4) (Evs.cons (Ea M1 (N2 hc) (N2 hcf) M4 A0M rfl) Evs.nil)) rfl ?_
   refine A7c hdp (up1 hk rfl) (Pick.cons E0 (Pick.cons E0 Pick.nil)) hb ho hz (by decide) (by omega) fun _ _ _ _ _ _ => ?_
   refine A1B ?_
   refine A0a ?_
   refine A1U ?_
   refine rC (Eg A0L (Cx.Under.gl U) M3) (Callee.fn A3w) (Evs.cons (Eg A1G (Cx.Under.gl U) M4) (Evs.cons (En M5) Evs.nil)) ?_
   refine A5X hdp (up1 hk rfl) hnp (by decide) (by decide) fun _ => ?_
   (try dsimp only [A2b])
   exact ⟨_, by first | exact Sub.refl | fail, q _ _ _ _ _ (by assumption) (by assumption)⟩
  ·
   refine eF A2K A2O rfl hd hk [("self", some (.ref m)), ("command", some (.ref c)), ("batch", some (.ref b)), ("kind", none), ("place", none), ("old", none)] ["CMD_NONE", "CMD_OPEN", "CMD_CLOSE", "make_reply", "REPLY_OK", "data_key", "CMD_PUT", "CMD_DELETE", "CMD_CAS", "same_maybe", "REPLY_NO"] fun Γ' U hdp hwp => ?_
   have hnp := U.nd.trans hn
   have hwq := U.w.trans hw
   refine A4Y (Ea M1 (N2 hc) (N2 hcf) M0 A0h rfl) rfl V3 ?_
   refine xIf ?_
   refine tOr ?_
   refine A0g (Ar.val (En M3)) (Ar.val (Eg A0Z (Cx.Under.gl U) M0)) rfl Ci.eq ?_
   refine A1D rfl ?_
   refine tOr ?_
   refine A0g (Ar.val (En M3)) (Ar.val (Eg A1g (Cx.Under.gl U) M1)) rfl Ci.eq ?_
   refine A1D rfl ?_
   refine tOr ?_
   refine A0g (Ar.val (En M3)) (Ar.val (Eg A0z (Cx.Under.gl U) M2)) rfl Ci.eq ?_
   refine A1D rfl ?_
   refine A0W ?_
   refine A0R rfl ?_
   refine A0a ?_
   refine xAs rfl ?_
   refine rC (Eg A1f (Cx.Under.gl U) M5) (Callee.fn A3v) (Evs.cons (Ea M1 (N2 hc) (N2 hcf) M3 A0w rfl) Evs.nil) ?_
   refine A5j hdp (up1 hk rfl) fun _ => ?_
   refine kAs V4 ?_
   refine xAs rfl ?_
   refine rM (Ea M0 (N2 hm) (N2 hmf) M0 A0i rfl) (Gm.inst (N2 hs) (N2 hsf) A0s rfl) (Evs.cons (En M4) Evs.nil) rfl ?_
   refine A4F hdp (up1 hk rfl) hwq (N2 hs) (N2 hsf) (N2 hnw) lo hkv hg' ?_
   refine kAs V5 ?_
   refine xIf ?_
   refine A0g (Ar.val (En M3)) (Ar.val (Eg A1C (Cx.Under.gl U) M6)) rfl Ci.eq ?_
   refine A0R rfl ?_
   refine xIf ?_
   refine A0g (Ar.val (En M3)) (Ar.val (Eg A1p (Cx.Under.gl U) M7)) rfl Ci.eq ?_
   refine A2s rfl ?_
   refine xIf ?_
   refine A1K (En M5) Eo rfl Cm.noNN ?_
   refine A0R rfl ?_
   refine A0a ?_
   refine A0a ?_
   refine A0a ?_
   refine A1U ?_
   refine rC (Eg A0L (Cx.Under.gl U) M3) (Callee.fn A3w) (Evs.cons (Eg A1G (Cx.Under.gl U) M4) (Evs.cons (En M5) Evs.nil)) ?_
   refine A5X hdp (up1 hk rfl) hnp (by decide) (by decide) fun _ => ?_
   (try dsimp only [A2b])
   exact ⟨_, by first | exact Sub.refl | fail, q R rv _ _ _ Grow.refl (by show OpsIn R rv (ops ++ []); rw [List.append_nil]; exact ho)⟩
  ·cases exp with
   | none =>
    replace hcf : (cd, A8o (.int 3 t1) (.int 9 t2) (.int num t3) (.bytes #[107] t4) (.bytes val.toArray t5) .none) ∈ R := hcf
    refine eF A2K A2O rfl hd hk [("self", some (.ref m)), ("command", some (.ref c)), ("batch", some (.ref b)), ("kind", none), ("place", none), ("old", none)] ["CMD_NONE", "CMD_OPEN", "CMD_CLOSE", "make_reply", "REPLY_OK", "data_key", "CMD_PUT", "CMD_DELETE", "CMD_CAS", "same_maybe", "REPLY_NO"] fun Γ' U hdp hwp => ?_
    have hnp := U.nd.trans hn
    have hwq := U.w.trans hw
    refine A4Y (Ea M1 (N2 hc) (N2 hcf) M0 A0h rfl) rfl V3 ?_
    refine xIf ?_
    refine tOr ?_
    refine A0g (Ar.val (En M3)) (Ar.val (Eg A0Z (Cx.Under.gl U) M0)) rfl Ci.eq ?_
    refine A1D rfl ?_
    refine tOr ?_
    refine A0g (Ar.val (En M3)) (Ar.val (Eg A1g (Cx.Under.gl U) M1)) rfl Ci.eq ?_
    refine A1D rfl ?_
    refine tOr ?_
    refine A0g (Ar.val (En M3)) (Ar.val (Eg A0z (Cx.Under.gl U) M2)) rfl Ci.eq ?_
    refine A1D rfl ?_
    refine A0W ?_
    refine A0R rfl ?_
    refine A0a ?_
    refine xAs rfl ?_
    refine rC (Eg A1f (Cx.Under.gl U) M5) (Callee.fn A3v) (Evs.cons (Ea M1 (N2 hc) (N2 hcf) M3 A0w rfl) Evs.nil) ?_
    refine A5j hdp (up1 hk rfl) fun _ => ?_
    refine kAs V4 ?_
    refine xAs rfl ?_
    refine rM (Ea M0 (N2 hm) (N2 hmf) M0 A0i rfl) (Gm.inst (N2 hs) (N2 hsf) A0s rfl) (Evs.cons (En M4) Evs.nil) rfl ?_
    refine A4F hdp (up1 hk rfl) hwq (N2 hs) (N2 hsf) (N2 hnw) lo hkv hg' ?_
    refine kAs V5 ?_
    refine xIf ?_
    refine A0g (Ar.val (En M3)) (Ar.val (Eg A1C (Cx.Under.gl U) M6)) rfl Ci.eq ?_
    refine A0R rfl ?_
    refine xIf ?_
    refine A0g (Ar.val (En M3)) (Ar.val (Eg A1p (Cx.Under.gl U) M7)) rfl Ci.eq ?_
    refine A0R rfl ?_
    refine xIf ?_
    refine A0g (Ar.val (En M3)) (Ar.val (Eg A2v (Cx.Under.gl U) M8)) rfl Ci.eq ?_
    refine A2s rfl ?_
    refine xIf ?_
    refine A5n ?_
    refine A2t rfl ?_
    refine rC (Eg A2q (Cx.Under.gl U) M9) (Callee.fn A5N) (Evs.cons (En M5) (Evs.cons (Ea M1 (N2 hc) (N2 hcf) M5 A0P rfl) Evs.nil)) ?_
    refine B1Y hdp (up1 hk rfl) ?_
    refine A0c ?_
    refine A0R rfl ?_
    refine A0a ?_
    refine A1A rfl ?_
    refine rM (En M2) (Gm.inst (N2 hb) M0 A0K rfl) (Evs.cons (En M4) (Evs.cons (Ea M1 (N2 hc) (N2 hcf) M4 A0M rfl) Evs.nil)) rfl ?_
    refine A7c hdp (up1 hk rfl) (Pick.cons E0 (Pick.cons E0 Pick.nil)) hb ho hz (by decide) (by omega) fun _ _ _ _ _ _ => ?_
    refine A1B ?_
    refine A0a ?_
    refine A0a ?_
    refine A0a ?_
    refine A1U ?_
    refine rC (Eg A0L (Cx.Under.gl U) M3) (Callee.fn A3w) (Evs.cons (Eg A1G (Cx.Under.gl U) M4) (Evs.cons (En M5) Evs.nil)) ?_
    refine A5X hdp (up1 hk rfl) hnp (by decide) (by decide) fun _ => ?_
    (try dsimp only [A2b])
    exact ⟨_, by first | exact Sub.refl | fail, q _ _ _ _ _ (by assumption) (by assumption)⟩
   | some e =>
    replace hcf : (cd, A8o (.int 3 t1) (.int 9 t2) (.int num t3) (.bytes #[107] t4) (.bytes val.toArray t5) (.bytes e.toArray t6)) ∈ R := hcf
    refine eF A2K A2O rfl hd hk [("self", some (.ref m)), ("command", some (.ref c)), ("batch", some (.ref b)), ("kind", none), ("place", none), ("old", none)] ["CMD_NONE", "CMD_OPEN", "CMD_CLOSE", "make_reply", "REPLY_OK", "data_key", "CMD_PUT", "CMD_DELETE", "CMD_CAS", "same_maybe", "REPLY_NO"] fun Γ' U hdp hwp => ?_
    have hnp := U.nd.trans hn
    have hwq := U.w.trans hw
    refine A4Y (Ea M1 (N2 hc) (N2 hcf) M0 A0h rfl) rfl V3 ?_
    refine xIf ?_
    refine tOr ?_
    refine A0g (Ar.val (En M3)) (Ar.val (Eg A0Z (Cx.Under.gl U) M0)) rfl Ci.eq ?_
    refine A1D rfl ?_
    refine tOr ?_
    refine A0g (Ar.val (En M3)) (Ar.val (Eg A1g (Cx.Under.gl U) M1)) rfl Ci.eq ?_
    refine A1D rfl ?_
    refine tOr ?_
    refine A0g (Ar.val (En M3)) (Ar.val (Eg A0z (Cx.Under.gl U) M2)) rfl Ci.eq ?_
    refine A1D rfl ?_
    refine A0W ?_
    refine A0R rfl ?_
    refine A0a ?_
    refine xAs rfl ?_
    refine rC (Eg A1f (Cx.Under.gl U) M5) (Callee.fn A3v) (Evs.cons (Ea M1 (N2 hc) (N2 hcf) M3 A0w rfl) Evs.nil) ?_
    refine A5j hdp (up1 hk rfl) fun _ => ?_
    refine kAs V4 ?_
    refine xAs rfl ?_
    refine rM (Ea M0 (N2 hm) (N2 hmf) M0 A0i rfl) (Gm.inst (N2 hs) (N2 hsf) A0s rfl) (Evs.cons (En M4) Evs.nil) rfl ?_
    refine A4F hdp (up1 hk rfl) hwq (N2 hs) (N2 hsf) (N2 hnw) lo hkv hg' ?_
    refine kAs V5 ?_
    refine xIf ?_
    refine A0g (Ar.val (En M3)) (Ar.val (Eg A1C (Cx.Under.gl U) M6)) rfl Ci.eq ?_
    refine A0R rfl ?_
    refine xIf ?_
    refine A0g (Ar.val (En M3)) (Ar.val (Eg A1p (Cx.Under.gl U) M7)) rfl Ci.eq ?_
    refine A0R rfl ?_
    refine xIf ?_
    refine A0g (Ar.val (En M3)) (Ar.val (Eg A2v (Cx.Under.gl U) M8)) rfl Ci.eq ?_
    refine A2s rfl ?_
    refine xIf ?_
    refine A5n ?_
    refine A2t rfl ?_
    refine rC (Eg A2q (Cx.Under.gl U) M9) (Callee.fn A5N) (Evs.cons (En M5) (Evs.cons (Ea M1 (N2 hc) (N2 hcf) M5 A0P rfl) Evs.nil)) ?_
    refine B1X hdp (up1 hk rfl) ?_
    refine A0c ?_
    refine A2s rfl ?_
    refine A1U ?_
    refine rC (Eg A0L (Cx.Under.gl U) M3) (Callee.fn A3w) (Evs.cons (Eg A4C (Cx.Under.gl U) M10) (Evs.cons (En M5) Evs.nil)) ?_
    refine A5X hdp (up1 hk rfl) hnp (by decide) (by decide) fun _ => ?_
    (try dsimp only [A2b])
    exact ⟨_, by first | exact Sub.refl | fail, q R rv _ _ _ Grow.refl (by show OpsIn R rv (ops ++ []); rw [List.append_nil]; exact ho)⟩
  ·
   refine eF A2K A2O rfl hd hk [("self", some (.ref m)), ("command", some (.ref c)), ("batch", some (.ref b)), ("kind", none), ("place", none), ("old", none)] ["CMD_NONE", "CMD_OPEN", "CMD_CLOSE", "make_reply", "REPLY_OK", "data_key", "CMD_PUT", "CMD_DELETE", "CMD_CAS", "same_maybe", "REPLY_NO"] fun Γ' U hdp hwp => ?_
   have hnp := U.nd.trans hn
   have hwq := U.w.trans hw
   refine A4Y (Ea M1 (N2 hc) (N2 hcf) M0 A0h rfl) rfl V3 ?_
   refine xIf ?_
   refine tOr ?_
   refine A0g (Ar.val (En M3)) (Ar.val (Eg A0Z (Cx.Under.gl U) M0)) rfl Ci.eq ?_
   refine A1D rfl ?_
   refine tOr ?_
   refine A0g (Ar.val (En M3)) (Ar.val (Eg A1g (Cx.Under.gl U) M1)) rfl Ci.eq ?_
   refine A1D rfl ?_
   refine tOr ?_
   refine A0g (Ar.val (En M3)) (Ar.val (Eg A0z (Cx.Under.gl U) M2)) rfl Ci.eq ?_
   refine A1D rfl ?_
   refine A0W ?_
   refine A0R rfl ?_
   refine A0a ?_
   refine xAs rfl ?_
   refine rC (Eg A1f (Cx.Under.gl U) M5) (Callee.fn A3v) (Evs.cons (Ea M1 (N2 hc) (N2 hcf) M3 A0w rfl) Evs.nil) ?_
   refine A5j hdp (up1 hk rfl) fun _ => ?_
   refine kAs V4 ?_
   refine xAs rfl ?_
   refine rM (Ea M0 (N2 hm) (N2 hmf) M0 A0i rfl) (Gm.inst (N2 hs) (N2 hsf) A0s rfl) (Evs.cons (En M4) Evs.nil) rfl ?_
   refine A4F hdp (up1 hk rfl) hwq (N2 hs) (N2 hsf) (N2 hnw) lo hkv hg' ?_
   refine kAs V5 ?_
   refine xIf ?_
   refine A0g (Ar.val (En M3)) (Ar.val (Eg A1C (Cx.Under.gl U) M6)) rfl Ci.eq ?_
   refine A0R rfl ?_
   refine xIf ?_
   refine A0g (Ar.val (En M3)) (Ar.val (Eg A1p (Cx.Under.gl U) M7)) rfl Ci.eq ?_
   refine A0R rfl ?_
   refine xIf ?_
   refine A0g (Ar.val (En M3)) (Ar.val (Eg A2v (Cx.Under.gl U) M8)) rfl Ci.eq ?_
   refine A0R rfl ?_
   refine xIf ?_
   refine A1K (En M5) Eo rfl Cm.isNN ?_
   refine A2s rfl ?_
   refine A1A rfl ?_
   refine rM (En M2) (Gm.inst (N2 hb) M0 A0K rfl) (Evs.cons (En M4) (Evs.cons (Ea M1 (N2 hc) (N2 hcf) M4 A0M rfl) Evs.nil)) rfl ?_
   refine A7c hdp (up1 hk rfl) (Pick.cons E0 (Pick.cons E0 Pick.nil)) hb ho hz (by decide) (by omega) fun _ _ _ _ _ _ => ?_
   refine A1B ?_
   refine A0a ?_
   refine A0a ?_
   refine A0a ?_
   refine A0a ?_
   refine A1U ?_
   refine rC (Eg A0L (Cx.Under.gl U) M3) (Callee.fn A3w) (Evs.cons (Eg A1G (Cx.Under.gl U) M4) (Evs.cons (En M5) Evs.nil)) ?_
   refine A5X hdp (up1 hk rfl) hnp (by decide) (by decide) fun _ => ?_
   (try dsimp only [A2b])
   exact ⟨_, by first | exact Sub.refl | fail, q _ _ _ _ _ (by assumption) (by assumption)⟩
 | some v =>
  have hg' : get tab [100, 107] = some v := hg
  have hvl := hold v hg
  rw [hg] at q
  rcases hkd with rfl | rfl | rfl | rfl
  ·
   refine eF A2K A2O rfl hd hk [("self", some (.ref m)), ("command", some (.ref c)), ("batch", some (.ref b)), ("kind", none), ("place", none), ("old", none)] ["CMD_NONE", "CMD_OPEN", "CMD_CLOSE", "make_reply", "REPLY_OK", "data_key", "CMD_PUT", "CMD_DELETE", "CMD_CAS", "same_maybe", "REPLY_NO"] fun Γ' U hdp hwp => ?_
   have hnp := U.nd.trans hn
   have hwq := U.w.trans hw
   refine A4Y (Ea M1 (N2 hc) (N2 hcf) M0 A0h rfl) rfl V3 ?_
   refine xIf ?_
   refine tOr ?_
   refine A0g (Ar.val (En M3)) (Ar.val (Eg A0Z (Cx.Under.gl U) M0)) rfl Ci.eq ?_
   refine A1D rfl ?_
   refine tOr ?_
   refine A0g (Ar.val (En M3)) (Ar.val (Eg A1g (Cx.Under.gl U) M1)) rfl Ci.eq ?_
   refine A1D rfl ?_
   refine tOr ?_
   refine A0g (Ar.val (En M3)) (Ar.val (Eg A0z (Cx.Under.gl U) M2)) rfl Ci.eq ?_
   refine A1D rfl ?_
   refine A0W ?_
   refine A0R rfl ?_
   refine A0a ?_
   refine xAs rfl ?_
   refine rC (Eg A1f (Cx.Under.gl U) M5) (Callee.fn A3v) (Evs.cons (Ea M1 (N2 hc) (N2 hcf) M3 A0w rfl) Evs.nil) ?_
   refine A5j hdp (up1 hk rfl) fun _ => ?_
   refine kAs V4 ?_
   refine xAs rfl ?_
   refine rM (Ea M0 (N2 hm) (N2 hmf) M0 A0i rfl) (Gm.inst (N2 hs) (N2 hsf) A0s rfl) (Evs.cons (En M4) Evs.nil) rfl ?_
   refine A4c hdp (up1 hk rfl) hwq (N2 hs) (N2 hsf) (N2 hnw) lo hkv hg' fun _ => ?_
   refine kAs V5 ?_
   refine xIf ?_
   refine A0g (Ar.val (En M3)) (Ar.val (Eg A1C (Cx.Under.gl U) M6)) rfl Ci.eq ?_
   refine A2s rfl ?_
   refine A1A rfl ?_
   refine rM (En M2) (Gm.inst (N2 hb) M0 A0K rfl) (Evs.cons (En M4) (Evs.cons (Ea M1 (N2 hc) (N2 hcf) M4 A0M rfl) Evs.nil)) rfl ?_
   refine A7c hdp (up1 hk rfl) (Pick.cons E0 (Pick.cons E0 Pick.nil)) hb ho hz (by decide) (by omega) fun _ _ _ _ _ _ => ?_
   refine A1B ?_
   refine A0a ?_
   refine A1U ?_
   refine rC (Eg A0L (Cx.Under.gl U) M3) (Callee.fn A3w) (Evs.cons (Eg A1G (Cx.Under.gl U) M4) (Evs.cons (En M5) Evs.nil)) ?_
   refine A6y hdp (up1 hk rfl) hnp (by decide) (by decide) (by omega) fun _ => ?_
   (try dsimp only [A2b])
   exact ⟨_, by first | exact Sub.refl | fail, q _ _ _ _ _ (by assumption) (by assumption)⟩
  ·
   refine eF A2K A2O rfl hd hk [("self", some (.ref m)), ("command", some (.ref c)), ("batch", some (.ref b)), ("kind", none), ("place", none), ("old", none)] ["CMD_NONE", "CMD_OPEN", "CMD_CLOSE", "make_reply", "REPLY_OK", "data_key", "CMD_PUT", "CMD_DELETE", "CMD_CAS", "same_maybe", "REPLY_NO"] fun Γ' U hdp hwp => ?_
   have hnp := U.nd.trans hn
   have hwq := U.w.trans hw
   refine A4Y (Ea M1 (N2 hc) (N2 hcf) M0 A0h rfl) rfl V3 ?_
   refine xIf ?_
   refine tOr ?_
   refine A0g (Ar.val (En M3)) (Ar.val (Eg A0Z (Cx.Under.gl U) M0)) rfl Ci.eq ?_
   refine A1D rfl ?_
   refine tOr ?_
   refine A0g (Ar.val (En M3)) (Ar.val (Eg A1g (Cx.Under.gl U) M1)) rfl Ci.eq ?_
   refine A1D rfl ?_
   refine tOr ?_
   refine A0g (Ar.val (En M3)) (Ar.val (Eg A0z (Cx.Under.gl U) M2)) rfl Ci.eq ?_
   refine A1D rfl ?_
   refine A0W ?_
   refine A0R rfl ?_
   refine A0a ?_
   refine xAs rfl ?_
   refine rC (Eg A1f (Cx.Under.gl U) M5) (Callee.fn A3v) (Evs.cons (Ea M1 (N2 hc) (N2 hcf) M3 A0w rfl) Evs.nil) ?_
   refine A5j hdp (up1 hk rfl) fun _ => ?_
   refine kAs V4 ?_
   refine xAs rfl ?_
   refine rM (Ea M0 (N2 hm) (N2 hmf) M0 A0i rfl) (Gm.inst (N2 hs) (N2 hsf) A0s rfl) (Evs.cons (En M4) Evs.nil) rfl ?_
   refine A4c hdp (up1 hk rfl) hwq (N2 hs) (N2 hsf) (N2 hnw) lo hkv hg' fun _ => ?_
   refine kAs V5 ?_
   refine xIf ?_
   refine A0g (Ar.val (En M3)) (Ar.val (Eg A1C (Cx.Under.gl U) M6)) rfl Ci.eq ?_
   refine A0R rfl ?_
   refine xIf ?_
   refine A0g (Ar.val (En M3)) (Ar.val (Eg A1p (Cx.Under.gl U) M7)) rfl Ci.eq ?_
   refine A2s rfl ?_
   refine xIf ?_
   refine A1K (En M5) Eo rfl (Cm.noN (fun e => Value.noConfusion e)) ?_
   refine A2s rfl ?_
   refine A1A rfl ?_
   refine rM (En M2) (Gm.inst (N2 hb) M0 A4l rfl) (Evs.cons (En M4) Evs.nil) rfl ?_
   refine B9Q hdp (up1 hk rfl) (Pick.cons E0 (Pick.cons E0 Pick.nil)) hb ho hz (by decide) fun _ _ _ _ _ _ => ?_
   refine A1B ?_
   refine A0a ?_
   refine A0a ?_
   refine A0a ?_
   refine A1U ?_
   refine rC (Eg A0L (Cx.Under.gl U) M3) (Callee.fn A3w) (Evs.cons (Eg A1G (Cx.Under.gl U) M4) (Evs.cons (En M5) Evs.nil)) ?_
   refine A6y hdp (up1 hk rfl) hnp (by decide) (by decide) (by omega) fun _ => ?_
   (try dsimp only [A2b])
   exact ⟨_, by first | exact Sub.refl | fail, q _ _ _ _ _ (by assumption) (by assumption)⟩
  ·cases exp with
   | none =>
    replace hcf : (cd, A8o (.int 3 t1) (.int 9 t2) (.int num t3) (.bytes #[107] t4) (.bytes val.toArray t5) .none) ∈ R := hcf
    refine eF A2K A2O rfl hd hk [("self", some (.ref m)), ("command", some (.ref c)), ("batch", some (.ref b)), ("kind", none), ("place", none), ("old", none)] ["CMD_NONE", "CMD_OPEN", "CMD_CLOSE", "make_reply", "REPLY_OK", "data_key", "CMD_PUT", "CMD_DELETE", "CMD_CAS", "same_maybe", "REPLY_NO"] fun Γ' U hdp hwp => ?_
    have hnp := U.nd.trans hn
    have hwq := U.w.trans hw
    refine A4Y (Ea M1 (N2 hc) (N2 hcf) M0 A0h rfl) rfl V3 ?_
    refine xIf ?_
    refine tOr ?_
    refine A0g (Ar.val (En M3)) (Ar.val (Eg A0Z (Cx.Under.gl U) M0)) rfl Ci.eq ?_
    refine A1D rfl ?_
    refine tOr ?_
    refine A0g (Ar.val (En M3)) (Ar.val (Eg A1g (Cx.Under.gl U) M1)) rfl Ci.eq ?_
    refine A1D rfl ?_
    refine tOr ?_
    refine A0g (Ar.val (En M3)) (Ar.val (Eg A0z (Cx.Under.gl U) M2)) rfl Ci.eq ?_
    refine A1D rfl ?_
    refine A0W ?_
    refine A0R rfl ?_
    refine A0a ?_
    refine xAs rfl ?_
    refine rC (Eg A1f (Cx.Under.gl U) M5) (Callee.fn A3v) (Evs.cons (Ea M1 (N2 hc) (N2 hcf) M3 A0w rfl) Evs.nil) ?_
    refine A5j hdp (up1 hk rfl) fun _ => ?_
    refine kAs V4 ?_
    refine xAs rfl ?_
    refine rM (Ea M0 (N2 hm) (N2 hmf) M0 A0i rfl) (Gm.inst (N2 hs) (N2 hsf) A0s rfl) (Evs.cons (En M4) Evs.nil) rfl ?_
    refine A4c hdp (up1 hk rfl) hwq (N2 hs) (N2 hsf) (N2 hnw) lo hkv hg' fun _ => ?_
    refine kAs V5 ?_
    refine xIf ?_
    refine A0g (Ar.val (En M3)) (Ar.val (Eg A1C (Cx.Under.gl U) M6)) rfl Ci.eq ?_
    refine A0R rfl ?_
    refine xIf ?_
    refine A0g (Ar.val (En M3)) (Ar.val (Eg A1p (Cx.Under.gl U) M7)) rfl Ci.eq ?_
    refine A0R rfl ?_
    refine xIf ?_
    refine A0g (Ar.val (En M3)) (Ar.val (Eg A2v (Cx.Under.gl U) M8)) rfl Ci.eq ?_
    refine A2s rfl ?_
    refine xIf ?_
    refine A5n ?_
    refine A2t rfl ?_
    refine rC (Eg A2q (Cx.Under.gl U) M9) (Callee.fn A5N) (Evs.cons (En M5) (Evs.cons (Ea M1 (N2 hc) (N2 hcf) M5 A0P rfl) Evs.nil)) ?_
    refine B1W hdp (up1 hk rfl) ?_
    refine A0c ?_
    refine A2s rfl ?_
    refine A1U ?_
    refine rC (Eg A0L (Cx.Under.gl U) M3) (Callee.fn A3w) (Evs.cons (Eg A4C (Cx.Under.gl U) M10) (Evs.cons (En M5) Evs.nil)) ?_
    refine A6y hdp (up1 hk rfl) hnp (by decide) (by decide) (by omega) fun _ => ?_
    (try dsimp only [A2b])
    exact ⟨_, by first | exact Sub.refl | fail, q R rv _ _ _ Grow.refl (by show OpsIn R rv (ops ++ []); rw [List.append_nil]; exact ho)⟩
   | some e =>
    replace hcf : (cd, A8o (.int 3 t1) (.int 9 t2) (.int num t3) (.bytes #[107] t4) (.bytes val.toArray t5) (.bytes e.toArray t6)) ∈ R := hcf
    by_cases hve : v = e
    ·subst hve
     have e1 : A3C 3 val (some v) (some v) = [.put dk val] := by simp [A3C]
     have e2 : A3B 3 (some v) (some v) = 0 :: may (some v) := by simp [A3B]
     rw [e1, e2] at q
     refine eF A2K A2O rfl hd hk [("self", some (.ref m)), ("command", some (.ref c)), ("batch", some (.ref b)), ("kind", none), ("place", none), ("old", none)] ["CMD_NONE", "CMD_OPEN", "CMD_CLOSE", "make_reply", "REPLY_OK", "data_key", "CMD_PUT", "CMD_DELETE", "CMD_CAS", "same_maybe", "REPLY_NO"] fun Γ' U hdp hwp => ?_
     have hnp := U.nd.trans hn
     have hwq := U.w.trans hw
     refine A4Y (Ea M1 (N2 hc) (N2 hcf) M0 A0h rfl) rfl V3 ?_
     refine xIf ?_
     refine tOr ?_
     refine A0g (Ar.val (En M3)) (Ar.val (Eg A0Z (Cx.Under.gl U) M0)) rfl Ci.eq ?_
     refine A1D rfl ?_
     refine tOr ?_
     refine A0g (Ar.val (En M3)) (Ar.val (Eg A1g (Cx.Under.gl U) M1)) rfl Ci.eq ?_
     refine A1D rfl ?_
     refine tOr ?_
     refine A0g (Ar.val (En M3)) (Ar.val (Eg A0z (Cx.Under.gl U) M2)) rfl Ci.eq ?_
     refine A1D rfl ?_
     refine A0W ?_
     refine A0R rfl ?_
     refine A0a ?_
     refine xAs rfl ?_
     refine rC (Eg A1f (Cx.Under.gl U) M5) (Callee.fn A3v) (Evs.cons (Ea M1 (N2 hc) (N2 hcf) M3 A0w rfl) Evs.nil) ?_
     refine A5j hdp (up1 hk rfl) fun _ => ?_
     refine kAs V4 ?_
     refine xAs rfl ?_
     refine rM (Ea M0 (N2 hm) (N2 hmf) M0 A0i rfl) (Gm.inst (N2 hs) (N2 hsf) A0s rfl) (Evs.cons (En M4) Evs.nil) rfl ?_
     refine A4c hdp (up1 hk rfl) hwq (N2 hs) (N2 hsf) (N2 hnw) lo hkv hg' fun _ => ?_
     refine kAs V5 ?_
     refine xIf ?_
     refine A0g (Ar.val (En M3)) (Ar.val (Eg A1C (Cx.Under.gl U) M6)) rfl Ci.eq ?_
     refine A0R rfl ?_
     refine xIf ?_
     refine A0g (Ar.val (En M3)) (Ar.val (Eg A1p (Cx.Under.gl U) M7)) rfl Ci.eq ?_
     refine A0R rfl ?_
     refine xIf ?_
     refine A0g (Ar.val (En M3)) (Ar.val (Eg A2v (Cx.Under.gl U) M8)) rfl Ci.eq ?_
     refine A2s rfl ?_
     refine xIf ?_
     refine A5n ?_
     refine A2t rfl ?_
     refine rC (Eg A2q (Cx.Under.gl U) M9) (Callee.fn A5N) (Evs.cons (En M5) (Evs.cons (Ea M1 (N2 hc) (N2 hcf) M5 A0P rfl) Evs.nil)) ?_
     refine A8V hdp (up1 hk rfl) ?_
     refine A0c ?_
     refine A0R (by simp only [decide_eq_true_eq, decide_eq_false_iff_not, Bool.not_eq_true', Bool.not_eq_false', Bool.not_true, Bool.not_false, not_true_eq_false, not_false_eq_true]) ?_
     refine A0a ?_
     refine A1A rfl ?_
     refine rM (En M2) (Gm.inst (N2 hb) M0 A0K rfl) (Evs.cons (En M4) (Evs.cons (Ea M1 (N2 hc) (N2 hcf) M4 A0M rfl) Evs.nil)) rfl ?_
     refine A7c hdp (up1 hk rfl) (Pick.cons E0 (Pick.cons E0 Pick.nil)) hb ho hz (by decide) (by omega) fun _ _ _ _ _ _ => ?_
     refine A1B ?_
     refine A0a ?_
     refine A0a ?_
     refine A0a ?_
     refine A1U ?_
     refine rC (Eg A0L (Cx.Under.gl U) M3) (Callee.fn A3w) (Evs.cons (Eg A1G (Cx.Under.gl U) M4) (Evs.cons (En M5) Evs.nil)) ?_
     refine A6y hdp (up1 hk rfl) hnp (by decide) (by decide) (by omega) fun _ => ?_
     (try dsimp only [A2b])
     exact ⟨_, by first | exact Sub.refl | fail, q _ _ _ _ _ (by assumption) (by assumption)⟩
    ·have hve' : ¬ v.toArray = e.toArray := fun h => hve (by simpa using congrArg Array.toList h)
     have e1 : A3C 3 val (some e) (some v) = [] := by simp [A3C, hve]
     have e2 : A3B 3 (some e) (some v) = 1 :: may (some v) := by simp [A3B, hve]
     rw [e1, e2] at q
     refine eF A2K A2O rfl hd hk [("self", some (.ref m)), ("command", some (.ref c)), ("batch", some (.ref b)), ("kind", none), ("place", none), ("old", none)] ["CMD_NONE", "CMD_OPEN", "CMD_CLOSE", "make_reply", "REPLY_OK", "data_key", "CMD_PUT", "CMD_DELETE", "CMD_CAS", "same_maybe", "REPLY_NO"] fun Γ' U hdp hwp => ?_
     have hnp := U.nd.trans hn
     have hwq := U.w.trans hw
     refine A4Y (Ea M1 (N2 hc) (N2 hcf) M0 A0h rfl) rfl V3 ?_
     refine xIf ?_
     refine tOr ?_
     refine A0g (Ar.val (En M3)) (Ar.val (Eg A0Z (Cx.Under.gl U) M0)) rfl Ci.eq ?_
     refine A1D rfl ?_
     refine tOr ?_
     refine A0g (Ar.val (En M3)) (Ar.val (Eg A1g (Cx.Under.gl U) M1)) rfl Ci.eq ?_
     refine A1D rfl ?_
     refine tOr ?_
     refine A0g (Ar.val (En M3)) (Ar.val (Eg A0z (Cx.Under.gl U) M2)) rfl Ci.eq ?_
     refine A1D rfl ?_
     refine A0W ?_
     refine A0R rfl ?_
     refine A0a ?_
     refine xAs rfl ?_
     refine rC (Eg A1f (Cx.Under.gl U) M5) (Callee.fn A3v) (Evs.cons (Ea M1 (N2 hc) (N2 hcf) M3 A0w rfl) Evs.nil) ?_
     refine A5j hdp (up1 hk rfl) fun _ => ?_
     refine kAs V4 ?_
     refine xAs rfl ?_
     refine rM (Ea M0 (N2 hm) (N2 hmf) M0 A0i rfl) (Gm.inst (N2 hs) (N2 hsf) A0s rfl) (Evs.cons (En M4) Evs.nil) rfl ?_
     refine A4c hdp (up1 hk rfl) hwq (N2 hs) (N2 hsf) (N2 hnw) lo hkv hg' fun _ => ?_
     refine kAs V5 ?_
     refine xIf ?_
     refine A0g (Ar.val (En M3)) (Ar.val (Eg A1C (Cx.Under.gl U) M6)) rfl Ci.eq ?_
     refine A0R rfl ?_
     refine xIf ?_
     refine A0g (Ar.val (En M3)) (Ar.val (Eg A1p (Cx.Under.gl U) M7)) rfl Ci.eq ?_
     refine A0R rfl ?_
     refine xIf ?_
     refine A0g (Ar.val (En M3)) (Ar.val (Eg A2v (Cx.Under.gl U) M8)) rfl Ci.eq ?_
     refine A2s rfl ?_
     refine xIf ?_
     refine A5n ?_
     refine A2t rfl ?_
     refine rC (Eg A2q (Cx.Under.gl U) M9) (Callee.fn A5N) (Evs.cons (En M5) (Evs.cons (Ea M1 (N2 hc) (N2 hcf) M5 A0P rfl) Evs.nil)) ?_
     refine A8V hdp (up1 hk rfl) ?_
     refine A0c ?_
     refine A2s (by fail "c3") ?_
     refine A1U ?_
     refine rC (Eg A0L (Cx.Under.gl U) M3) (Callee.fn A3w) (Evs.cons (Eg A4C (Cx.Under.gl U) M10) (Evs.cons (En M5) Evs.nil)) ?_
     refine A6y hdp (up1 hk rfl) hnp (by decide) (by decide) (by omega) fun _ => ?_
     (try dsimp only [A2b])
     exact ⟨_, by first | exact Sub.refl | fail, q R rv _ _ _ Grow.refl (by show OpsIn R rv (ops ++ []); rw [List.append_nil]; exact ho)⟩
  ·
   refine eF A2K A2O rfl hd hk [("self", some (.ref m)), ("command", some (.ref c)), ("batch", some (.ref b)), ("kind", none), ("place", none), ("old", none)] ["CMD_NONE", "CMD_OPEN", "CMD_CLOSE", "make_reply", "REPLY_OK", "data_key", "CMD_PUT", "CMD_DELETE", "CMD_CAS", "same_maybe", "REPLY_NO"] fun Γ' U hdp hwp => ?_
   have hnp := U.nd.trans hn
   have hwq := U.w.trans hw
   refine A4Y (Ea M1 (N2 hc) (N2 hcf) M0 A0h rfl) rfl V3 ?_
   refine xIf ?_
   refine tOr ?_
   refine A0g (Ar.val (En M3)) (Ar.val (Eg A0Z (Cx.Under.gl U) M0)) rfl Ci.eq ?_
   refine A1D rfl ?_
   refine tOr ?_
   refine A0g (Ar.val (En M3)) (Ar.val (Eg A1g (Cx.Under.gl U) M1)) rfl Ci.eq ?_
   refine A1D rfl ?_
   refine tOr ?_
   refine A0g (Ar.val (En M3)) (Ar.val (Eg A0z (Cx.Under.gl U) M2)) rfl Ci.eq ?_
   refine A1D rfl ?_
   refine A0W ?_
   refine A0R rfl ?_
   refine A0a ?_
   refine xAs rfl ?_
   refine rC (Eg A1f (Cx.Under.gl U) M5) (Callee.fn A3v) (Evs.cons (Ea M1 (N2 hc) (N2 hcf) M3 A0w rfl) Evs.nil) ?_
   refine A5j hdp (up1 hk rfl) fun _ => ?_
   refine kAs V4 ?_
   refine xAs rfl ?_
   refine rM (Ea M0 (N2 hm) (N2 hmf) M0 A0i rfl) (Gm.inst (N2 hs) (N2 hsf) A0s rfl) (Evs.cons (En M4) Evs.nil) rfl ?_
   refine A4c hdp (up1 hk rfl) hwq (N2 hs) (N2 hsf) (N2 hnw) lo hkv hg' fun _ => ?_
   refine kAs V5 ?_
   refine xIf ?_
   refine A0g (Ar.val (En M3)) (Ar.val (Eg A1C (Cx.Under.gl U) M6)) rfl Ci.eq ?_
   refine A0R rfl ?_
   refine xIf ?_
   refine A0g (Ar.val (En M3)) (Ar.val (Eg A1p (Cx.Under.gl U) M7)) rfl Ci.eq ?_
   refine A0R rfl ?_
   refine xIf ?_
   refine A0g (Ar.val (En M3)) (Ar.val (Eg A2v (Cx.Under.gl U) M8)) rfl Ci.eq ?_
   refine A0R rfl ?_
   refine xIf ?_
   refine A1K (En M5) Eo rfl (Cm.isN (fun e => Value.noConfusion e)) ?_
   refine A0R rfl ?_
   refine A1A rfl ?_
   refine rM' (En M2) (Gm.inst (N2 hb) M0 A0K rfl) rfl rfl rfl ?_
   refine A0m (En M4) ?_
   refine A0A rfl ?_
   refine B1v (En M5) (Ea M1 (N2 hc) (N2 hcf) M4 A0M rfl) ?_
   refine A7Q (by omega) fun _ => ?_
   refine A0d ?_
   refine A7c hdp (up1 hk rfl) (Pick.cons E0 (Pick.cons E0 Pick.nil)) hb ho hz (by decide) (by fail "c1") fun _ _ _ _ _ _ => ?_
   refine A1B ?_
   refine A0a ?_
   refine A0a ?_
   refine A0a ?_
   refine A0a ?_
   refine A1U ?_
   refine rC (Eg A0L (Cx.Under.gl U) M3) (Callee.fn A3w) (Evs.cons (Eg A1G (Cx.Under.gl U) M4) (Evs.cons (En M5) Evs.nil)) ?_
   refine A6y hdp (up1 hk rfl) hnp (by decide) (by decide) (by omega) fun _ => ?_
   (try dsimp only [A2b])
   exact ⟨_, by first | exact Sub.refl | fail, q _ _ _ _ _ (by assumption) (by assumption)⟩
end
end Mine
namespace Mine
noncomputable def sk : By := [115, 0, 0, 0, 0, 0, 0, 0, 9]
noncomputable def ak : By := [97]
noncomputable def enc (n : Int) (rep : By) : By := n.toNat.toUInt8 :: 1 :: rep.length.toUInt8 :: rep
inductive Cmd where
 | opn (num : Int)
 | op (kd num : Int) (w : UInt8) (exp : Bool)
noncomputable def Cmd.num : Cmd → Int
 | .opn n => n
 | .op _ n _ _ => n
noncomputable def Cmd.kd : Cmd → Int
 | .opn _ => 5
 | .op k _ _ _ => k
noncomputable def Cmd.key : Cmd → By
 | .opn _ => []
 | .op _ _ _ _ => [107]
noncomputable def Cmd.val : Cmd → By
 | .opn _ => []
 | .op _ _ w _ => [w]
noncomputable def Cmd.exp : Cmd → Option By
 | .opn _ => none
 | .op _ _ _ e => if e then some [98] else none
noncomputable def Cmd.data : Cmd → By
 | .opn n => [5, 9, n.toNat.toUInt8, 0, 0, 0]
 | .op k n w false => [k.toNat.toUInt8, 9, n.toNat.toUInt8, 1, 107, 1, w, 0]
 | .op k n w true => [k.toNat.toUInt8, 9, n.toNat.toUInt8, 1, 107, 1, w, 1, 1, 98]
structure Cmd.Ok (c : Cmd) : Prop where
 n0 : 0 ≤ c.num
 n1 : c.num < 128
 k : c = .opn c.num ∨ c.kd = 1 ∨ c.kd = 2 ∨ c.kd = 3 ∨ c.kd = 4
noncomputable def CmdIn (R : Led) (x : Addr) (c : Cmd) : Prop := ∃ xd t1 t2 t3 t4 t5 t6, (x, LObj.inst 873 xd) ∈ R ∧ (xd, A8o (.int c.kd t1) (.int 9 t2) (.int c.num t3) (.bytes c.key.toArray t4) (.bytes c.val.toArray t5) (obl c.exp t6)) ∈ R
theorem CmdIn.mono {R R' : Led} {x : Addr} {c : Cmd} (g : Grow R R') (h : CmdIn R x c) : CmdIn R' x c := by
 obtain ⟨xd, t1, t2, t3, t4, t5, t6, a, b⟩ := h
 exact ⟨xd, t1, t2, t3, t4, t5, t6, g _ a, g _ b⟩
theorem A8C {n : Int} (h0 : 0 ≤ n) (h1 : n < 256) : (n.toNat.toUInt8.toNat : Int) = n := by
 have : n.toNat < 256 := by omega
 rw [show n.toNat.toUInt8.toNat = n.toNat from by simp; omega]
 omega
inductive DoRes (tab : Tab) : Cmd → By → List Op → Prop
 | dup {c : Cmd} {rep : By} : get tab sk = some (enc c.num rep) → rep.length < 100 → DoRes tab c rep []
 | stale {c : Cmd} {n : Int} {rep : By} : get tab sk = some (enc n rep) → rep.length < 100 → n < 128 → c.num < n → DoRes tab c [3, 0] []
 | opn {n : Int} : get tab sk = none → DoRes tab (.opn n) [0, 0] [.put sk (enc n [0, 0])]
 | eff {kd n' : Int} {w : UInt8} {e : Bool} {n : Int} {rep : By} : get tab sk = some (enc n rep) → rep.length < 100 → 0 ≤ n → n < n' → DoRes tab (.op kd n' w e) (A3B kd (Cmd.exp (.op kd n' w e)) (get tab dk)) (A3C kd [w] (Cmd.exp (.op kd n' w e)) (get tab dk) ++ [.put sk (enc n' (A3B kd (Cmd.exp (.op kd n' w e)) (get tab dk)))])
theorem B3O {o : Option By} (h : ∀ v, o = some v → v.length < 60) : (may o).length < 64 := by
 cases o with
 | none => simp [may]
 | some v => have := h v rfl; simp [may]; omega
theorem A5g (kd : Int) (val : By) (exp o : Option By) : (A3C kd val exp o).length ≤ 1 := by
 unfold A3C
 split
 ·simp
 ·split
  ·simp
  ·split
   ·split <;> simp
   ·split
    ·split <;> simp
    ·simp
theorem A9u {kd : Int} {exp o : Option By} (h : ∀ v, o = some v → v.length < 60) : (A3B kd exp o).length < 70 := by
 have := B3O h
 unfold A3B
 split
 ·simp
 ·simp; omega
section
variable {Γ : Cx} {vs : A0e} {led R C : Led} {Q : Value → A0e → Led → Prop} {k : Nat} {w : World}
theorem B4L {m md s sd nw ba : Addr} {ap tm du kp la : Value} {kvs : List (By × Value)} {tab : Tab} {t tc : Tok} (hd : Low Γ k) (hk : k ≤ 540) (hw : Γ.w = w) (hm : (m, .inst 1055 md) ∈ led) (hmf : (md, A5z s ap tm du tc) ∈ led) (hs : (s, .inst 1132 sd) ∈ led) (hf : (sd, A4o nw ba kp la) ∈ led) (hn : (nw, .bdict w kvs) ∈ led) (lo : Ok nw) (hk' : KvIs kvs tab)
  (hg : get tab sk = none) (q : ∀ p t1 t2, Q (.ref p) vs ((p, .tup [.int (-1) t1, .bool false, .bytes #[] t2]) :: led)) : Run Γ vs led (call (.ref 1024) [.ref m, .int 9 t]) Q := by
 have hg' : get tab [115, 0, 0, 0, 0, 0, 0, 0, 9] = none := hg
 refine eF B0f B0H rfl hd hk [("self", some (.ref m)), ("client", some (.int 9 t)), ("data", none)] ["session_key", "decode_session"] fun Γ' U hdp hwp => ?_
 have hwq := U.w.trans hw
 refine xAs rfl ?_
 refine rM' (Ea M0 hm hmf M0 A0i rfl) (Gm.inst hs hf A0s rfl) rfl rfl rfl ?_
 refine A0A rfl ?_
 refine rC (Eg A2C (Cx.Under.gl U) M0) (Callee.fn A8N) (Evs.cons (En M1) Evs.nil) ?_
 refine B1P hdp (up1 hk rfl) fun _ => ?_
 refine A0d ?_
 refine A4F hdp (up1 hk rfl) hwq hs hf hn lo hk' hg' ?_
 refine kAs V2 ?_
 refine xIf ?_
 refine A1K (En M2) Eo rfl Cm.isNN ?_
 refine A2s rfl ?_
 refine A1U ?_
 refine A6s ?_
 refine A0k (Ar.neg Ar.con) fun _ => ?_
 refine A0m Et ?_
 refine A0A rfl ?_
 refine A1I fun _ => ?_
 refine A0d ?_
 refine A0q (by fail "c3") fun _ => ?_
 fail "k"
 exact A2a (by exact Sub.refl) (q _ _ _)
theorem A8s {m md s sd nw ba : Addr} {ap tm du kp la : Value} {kvs : List (By × Value)} {tab : Tab} {t tc : Tok} {n : Int} {rep : By} (hd : Low Γ k) (hk : k ≤ 540) (hw : Γ.w = w) (hm : (m, .inst 1055 md) ∈ led) (hmf : (md, A5z s ap tm du tc) ∈ led) (hs : (s, .inst 1132 sd) ∈ led) (hf : (sd, A4o nw ba kp la) ∈ led) (hn : (nw, .bdict w kvs) ∈ led) (lo : Ok nw) (hk' : KvIs kvs tab)
  (hg : get tab sk = some (enc n rep)) (h0 : 0 ≤ n) (h1 : n < 128) (hr : rep.length < 100) (q : ∀ p t1 t2, Q (.ref p) vs ((p, .tup [.int n t1, .bool true, .bytes rep.toArray t2]) :: led)) : Run Γ vs led (call (.ref 1024) [.ref m, .int 9 t]) Q := by
 have hg' : get tab [115, 0, 0, 0, 0, 0, 0, 0, 9] = some (n.toNat.toUInt8 :: 1 :: rep.length.toUInt8 :: rep) := hg
 have e1 : (n.toNat.toUInt8.toNat : Int) = n := A8C h0 (by omega)
 have e2 : rep.length.toUInt8.toNat = rep.length := by simp; omega
 have e3 : n.toNat.toUInt8.toNat < 128 := by omega
 have e4 : rep.length < 128 := by omega
 rw [← e1] at q
 refine eF B0f B0H rfl hd hk [("self", some (.ref m)), ("client", some (.int 9 t)), ("data", none)] ["session_key", "decode_session"] fun Γ' U hdp hwp => ?_
 have hwq := U.w.trans hw
 refine xAs rfl ?_
 refine rM' (Ea M0 hm hmf M0 A0i rfl) (Gm.inst hs hf A0s rfl) rfl rfl rfl ?_
 refine A0A rfl ?_
 refine rC (Eg A2C (Cx.Under.gl U) M0) (Callee.fn A8N) (Evs.cons (En M1) Evs.nil) ?_
 refine B1P hdp (up1 hk rfl) fun _ => ?_
 refine A0d ?_
 refine A4c hdp (up1 hk rfl) hwq hs hf hn lo hk' hg' fun _ => ?_
 refine kAs V2 ?_
 refine xIf ?_
 refine A1K (En M2) Eo rfl (Cm.isN (fun e => Value.noConfusion e)) ?_
 refine A0R rfl ?_
 refine A0a ?_
 refine A1U ?_
 refine rC (Eg A3z (Cx.Under.gl U) M1) (Callee.fn B2K) (Evs.cons (En M2) Evs.nil) ?_
 refine B7F hdp (up1 hk rfl) e3 e4 e2 fun _ _ _ => ?_
 fail "k"
 exact A2a (by exact Sub.refl) (q _ _ _)
theorem B9L {m b bd rw : Addr} {x i : Int} {t t1 t2 tc : Tok} {rv : List Value} {ops : List Op} (hd : Low Γ k) (hk : k ≤ 540) (hn : Γ.nd = true) (P : Pick [(bd, A6d rw (.int x t)), (rw, .list rv)] led R) (hb : (b, .inst 831 bd) ∈ R) (ho : OpsIn R rv ops) (hz : rv.length ≤ 900) (h0 : 0 ≤ i) (h1 : i < 128)
  (q : ∀ R' rv' x' t', Grow R R' → OpsIn R' rv' (ops ++ [.put ak [i.toNat.toUInt8, 1, 0]]) → Q .none vs ((bd, A6d rw (.int x' t')) :: (rw, .list rv') :: R')) : Run Γ vs led (call (.ref 975) [.ref m, .ref b, .int i t1, .int 1 t2, .bytes #[] tc]) Q := by
 refine Run.pick2 P ?_
 refine eF B5E B6Q rfl hd hk [("self", some (.ref m)), ("batch", some (.ref b)), ("index", some (.int i t1)), ("term", some (.int 1 t2)), ("conf_octets", some (.bytes #[] tc)), ("sink", none)] ["Sink", "APPLIED_KEY"] fun Γ' U hdp hwp => ?_
 have hnp := U.nd.trans hn
 refine xAs rfl ?_
 refine rC (Eg A5e (Cx.Under.gl U) M0) (Callee.fn (Cls.keeps A4a)) Evs.nil ?_
 refine A9D hdp (up1 hk rfl) hnp fun _ _ _ => ?_
 refine kAs V5 ?_
 refine A1A rfl ?_
 refine rM (En M5) (Gm.inst M1 M2 A1h rfl) (Evs.cons (En M2) Evs.nil) rfl ?_
 refine A7d hdp (up1 hk rfl) hnp (Pick.cons E0 Pick.nil) M0 M1 h0 h1 (by decide) ?_
 refine A1B ?_
 refine A1A rfl ?_
 refine rM (En M5) (Gm.inst M1 M2 A1h rfl) (Evs.cons (En M3) Evs.nil) rfl ?_
 refine A7d hdp (up1 hk rfl) hnp (Pick.cons E0 Pick.nil) M0 M1 (by decide) (by decide) (by fail "c1") ?_
 refine A1B ?_
 refine A1A rfl ?_
 refine rM (En M5) (Gm.inst M1 M2 A1l rfl) (Evs.cons (En M4) Evs.nil) rfl ?_
 refine A8r hdp (up1 hk rfl) hnp (Pick.cons E0 Pick.nil) M0 M1 (by fail "c1") (by decide) ?_
 refine A1B ?_
 refine A1A rfl ?_
 refine rM' (En M1) (Gm.inst (N5 hb) M3 A0K rfl) rfl rfl rfl ?_
 refine A0m (Eg A6l (Cx.Under.gl U) M1) ?_
 refine A0A rfl ?_
 refine rM (En M5) (Gm.inst M1 M2 A2j rfl) Evs.nil rfl ?_
 refine A9E hdp (up1 hk rfl) M1 M2 M0 (by fail "c1") fun _ => ?_
 refine A0d ?_
 refine A7c hdp (up1 hk rfl) (Pick.cons E3 (Pick.cons E3 Pick.nil)) (N3 hb) (OpsIn.mono (Grow.cons (Grow.cons (Grow.cons Grow.refl))) ho) hz (by decide) (by simp) fun _ _ _ _ _ _ => ?_
 refine A1B ?_
 refine A0a ?_
 refine A0n ?_
 rename_i R1 rv1 x1 t9 g o
 refine' ⟨_, ?hs, q R1 rv1 _ _ (Grow.trans ?hg g) o⟩
 case hs => exact Sub.refl
 case hg => exact Grow.cons (Grow.cons (Grow.cons Grow.refl))
theorem B4N {m md s sd nw ba c b bd rw : Addr} {ap tm du kp la : Value} {kvs : List (By × Value)} {tab : Tab} {tc tb : Tok} {x : Int} {rv : List Value} {ops ops' : List Op} {cmd : Cmd} {rep : By} (hd : Low Γ k) (hk : k ≤ 520) (hn : Γ.nd = true) (hw : Γ.w = w)
  (P : Pick [(bd, A6d rw (.int x tb)), (rw, .list rv)] led R) (hm : (m, .inst 1055 md) ∈ R) (hmf : (md, A5z s ap tm du tc) ∈ R) (hs : (s, .inst 1132 sd) ∈ R) (hsf : (sd, A4o nw ba kp la) ∈ R) (hnw : (nw, .bdict w kvs) ∈ R) (hb : (b, .inst 831 bd) ∈ R) (hc : CmdIn R c cmd)
  (ho : OpsIn R rv ops) (lo : Ok nw) (hkv : KvIs kvs tab) (hok : cmd.Ok) (hr : DoRes tab cmd rep ops') (hold : ∀ v, get tab dk = some v → v.length < 60) (hz : rv.length ≤ 100)
  (q : ∀ R' rv' x' tb' t, Grow R R' → OpsIn R' rv' (ops ++ ops') → Q (.bytes rep.toArray t) vs ((bd, A6d rw (.int x' tb')) :: (rw, .list rv') :: R')) : Run Γ vs led (call (.ref 1003) [.ref m, .ref c, .ref b]) Q := by
 obtain ⟨cd, t1, t2, t3, t4, t5, t6, hc1, hc2⟩ := hc
 have hn0 := hok.n0
 have hn1 := hok.n1
 refine Run.pick2 P ?_
 cases hr with
 | dup hg hl =>
  refine eF A6L A7a rfl hd hk [("self", some (.ref m)), ("command", some (.ref c)), ("batch", some (.ref b)), ("last", none), ("is_open", none), ("reply", none), ("row", none)] ["make_reply", "REPLY_STALE", "CMD_OPEN", "REPLY_UNKNOWN", "encode_session", "CMD_CLOSE", "session_key"] fun Γ' U hdp hwp => ?_
  have hnp := U.nd.trans hn
  have hwq := U.w.trans hw
  refine B1m rfl rfl ?_
  refine rM (En M0) (Gm.inst (N2 hm) (N2 hmf) A1v rfl) (Evs.cons (Ea M1 (N2 hc1) (N2 hc2) M1 A0G rfl) Evs.nil) rfl ?_
  refine A8s hdp (up1 hk rfl) hwq (N2 hm) (N2 hmf) (N2 hs) (N2 hsf) (N2 hnw) lo hkv hg hn0 hn1 hl fun _ _ _ => ?_
  refine A1O M0 rfl rfl ?_
  refine A0Y ?_
  refine A0b V3 ?_
  refine A0Y ?_
  refine A0b V4 ?_
  refine A0Y ?_
  refine A0b V5 ?_
  refine A4X ?_
  refine xIf ?_
  refine A0g (Ar.val (Ea M1 (N3 hc1) (N3 hc2) M2 A0r rfl)) (Ar.val (En M3)) rfl Ci.eq ?_
  refine A2s (by simp only [decide_eq_true_eq, decide_eq_false_iff_not, Bool.not_eq_true', Bool.not_eq_false', Bool.not_true, Bool.not_false, not_true_eq_false, not_false_eq_true]) ?_
  refine A3h (En M5) ?_
  exact ⟨_, by exact Sub.cons E1 (Sub.cons E1 (Sub.skip Sub.refl)), q R rv _ _ _ Grow.refl (by rw [List.append_nil]; exact ho)⟩
 | @stale _ n rep hg hl h1 h2 =>
  have h0 : 0 ≤ n := by omega
  refine eF A6L A7a rfl hd hk [("self", some (.ref m)), ("command", some (.ref c)), ("batch", some (.ref b)), ("last", none), ("is_open", none), ("reply", none), ("row", none)] ["make_reply", "REPLY_STALE", "CMD_OPEN", "REPLY_UNKNOWN", "encode_session", "CMD_CLOSE", "session_key"] fun Γ' U hdp hwp => ?_
  have hnp := U.nd.trans hn
  have hwq := U.w.trans hw
  refine B1m rfl rfl ?_
  refine rM (En M0) (Gm.inst (N2 hm) (N2 hmf) A1v rfl) (Evs.cons (Ea M1 (N2 hc1) (N2 hc2) M1 A0G rfl) Evs.nil) rfl ?_
  refine A8s hdp (up1 hk rfl) hwq (N2 hm) (N2 hmf) (N2 hs) (N2 hsf) (N2 hnw) lo hkv hg h0 h1 hl fun _ _ _ => ?_
  refine A1O M0 rfl rfl ?_
  refine A0Y ?_
  refine A0b V3 ?_
  refine A0Y ?_
  refine A0b V4 ?_
  refine A0Y ?_
  refine A0b V5 ?_
  refine A4X ?_
  refine xIf ?_
  refine A0g (Ar.val (Ea M1 (N3 hc1) (N3 hc2) M2 A0r rfl)) (Ar.val (En M3)) rfl Ci.eq ?_
  refine A0R (by fail "c3") ?_
  refine A0a ?_
  refine xIf ?_
  refine A0g (Ar.val (Ea M1 (N3 hc1) (N3 hc2) M2 A0r rfl)) (Ar.val (En M3)) rfl Ci.lt ?_
  refine A2s (by fail "c3") ?_
  refine A1U ?_
  refine rC (Eg A0L (Cx.Under.gl U) M0) (Callee.fn A3w) (Evs.cons (Eg A6j (Cx.Under.gl U) M1) (Evs.cons Eo Evs.nil)) ?_
  refine A5X hdp (up1 hk rfl) hnp (by decide) (by decide) fun _ => ?_
  exact ⟨_, by exact Sub.cons E1 (Sub.cons E1 (Sub.skip Sub.refl)), q R rv _ _ _ Grow.refl (by rw [List.append_nil]; exact ho)⟩
 | @opn n hg =>
  replace hc2 : (cd, A8o (.int 5 t1) (.int 9 t2) (.int n t3) (.bytes #[] t4) (.bytes #[] t5) .none) ∈ R := hc2
  replace hn0 : 0 ≤ n := hn0
  replace hn1 : n < 128 := hn1
  refine eF A6L A7a rfl hd hk [("self", some (.ref m)), ("command", some (.ref c)), ("batch", some (.ref b)), ("last", none), ("is_open", none), ("reply", none), ("row", none)] ["make_reply", "REPLY_STALE", "CMD_OPEN", "REPLY_UNKNOWN", "encode_session", "CMD_CLOSE", "session_key"] fun Γ' U hdp hwp => ?_
  have hnp := U.nd.trans hn
  have hwq := U.w.trans hw
  refine B1m rfl rfl ?_
  refine rM (En M0) (Gm.inst (N2 hm) (N2 hmf) A1v rfl) (Evs.cons (Ea M1 (N2 hc1) (N2 hc2) M1 A0G rfl) Evs.nil) rfl ?_
  refine B4L hdp (up1 hk rfl) hwq (N2 hm) (N2 hmf) (N2 hs) (N2 hsf) (N2 hnw) lo hkv hg fun _ _ _ => ?_
  refine A1O M0 rfl rfl ?_
  refine A0Y ?_
  refine A0b V3 ?_
  refine A0Y ?_
  refine A0b V4 ?_
  refine A0Y ?_
  refine A0b V5 ?_
  refine A4X ?_
  refine xIf ?_
  refine A0g (Ar.val (Ea M1 (N3 hc1) (N3 hc2) M2 A0r rfl)) (Ar.val (En M3)) rfl Ci.eq ?_
  refine A0R (by fail "c3") ?_
  refine A0a ?_
  refine xIf ?_
  refine A0g (Ar.val (Ea M1 (N3 hc1) (N3 hc2) M2 A0r rfl)) (Ar.val (En M3)) rfl Ci.lt ?_
  refine A0R (by fail "c3") ?_
  refine A0a ?_
  refine xIf ?_
  refine A3K ?_
  refine A5n ?_
  refine A1F (En M4) rfl ?_
  refine A0c ?_
  refine A3N rfl ?_
  refine A3K ?_
  refine A0g (Ar.val (Ea M1 (N3 hc1) (N3 hc2) M0 A0h rfl)) (Ar.val (Eg A1g (Cx.Under.gl U) M2)) rfl Ci.ne ?_
  refine A1D rfl ?_
  refine A0R rfl ?_
  refine A0a ?_
  refine xAs rfl ?_
  refine rM (En M0) (Gm.inst (N3 hm) (N3 hmf) A2Q rfl) (Evs.cons (En M1) (Evs.cons (En M2) Evs.nil)) rfl ?_
  refine B4M hdp (up1 hk rfl) hnp (Pick.cons E1 (Pick.cons E1 Pick.nil)) (N1 hm) (N1 hmf) (N1 hb) (N1 hc1) (N1 hc2) (OpsIn.mono (Grow.cons Grow.refl) ho) fun _ => ?_
  refine kAs V5 ?_
  refine xAs rfl ?_
  refine rC' (Eg A3y (Cx.Under.gl U) M4) (Callee.fn B2L) rfl rfl ?_
  refine A0m (Ea M1 (N3 hc1) (N3 hc2) M2 A0r rfl) ?_
  refine A0A rfl ?_
  refine A3O (Ea M1 (N3 hc1) (N3 hc2) M0 A0h rfl) (Eg A0z (Cx.Under.gl U) M5) rfl ?_
  refine rCm Cm.ne ?_
  refine A0m (En M5) ?_
  refine A0d ?_
  refine B7G hdp (up1 hk rfl) hnp rfl hn0 hn1 (by decide) fun _ => ?_
  refine kAs V6 ?_
  refine A1A rfl ?_
  refine rM' (En M2) (Gm.inst (N3 hb) M0 A0K rfl) rfl rfl rfl ?_
  refine A0A rfl ?_
  refine rC (Eg A2C (Cx.Under.gl U) M6) (Callee.fn A8N) (Evs.cons (Ea M1 (N3 hc1) (N3 hc2) M1 A0G rfl) Evs.nil) ?_
  refine B1P hdp (up1 hk rfl) fun _ => ?_
  refine A0m (En M6) ?_
  refine A0d ?_
  refine A7c hdp (up1 hk rfl) (Pick.cons E0 (Pick.cons E0 Pick.nil)) (N1 hb) (OpsIn.mono (Grow.cons Grow.refl) ho) (up0 hz rfl) (by decide) (by fail "c1") fun _ _ _ _ _ _ => ?_
  refine A1B ?_
  refine A3h (En M5) ?_
  rename_i g o
  exact ⟨_, by exact Sub.refl, q _ _ _ _ _ (Grow.trans (by exact Grow.cons Grow.refl) g) o⟩
 | @eff kd n' wd e n rep hg hl h0 h1 =>
  replace hn0 : 0 ≤ n' := hn0
  replace hn1 : n' < 128 := hn1
  have hn2 : n < 128 := by omega
  have hrl := A9u (kd := kd) (exp := Cmd.exp (.op kd n' wd e)) hold
  have hkd : kd = 1 ∨ kd = 2 ∨ kd = 3 ∨ kd = 4 := by
   rcases hok.k with h | h
   ·cases h
   ·exact h
  replace hc2 : (cd, A8o (.int kd t1) (.int 9 t2) (.int n' t3) (.bytes #[107] t4) (.bytes [wd].toArray t5) (obl (Cmd.exp (.op kd n' wd e)) t6)) ∈ R := hc2
  refine eF A6L A7a rfl hd hk [("self", some (.ref m)), ("command", some (.ref c)), ("batch", some (.ref b)), ("last", none), ("is_open", none), ("reply", none), ("row", none)] ["make_reply", "REPLY_STALE", "CMD_OPEN", "REPLY_UNKNOWN", "encode_session", "CMD_CLOSE", "session_key"] fun Γ' U hdp hwp => ?_
  have hnp := U.nd.trans hn
  have hwq := U.w.trans hw
  refine B1m rfl rfl ?_
  refine rM (En M0) (Gm.inst (N2 hm) (N2 hmf) A1v rfl) (Evs.cons (Ea M1 (N2 hc1) (N2 hc2) M1 A0G rfl) Evs.nil) rfl ?_
  refine A8s hdp (up1 hk rfl) hwq (N2 hm) (N2 hmf) (N2 hs) (N2 hsf) (N2 hnw) lo hkv hg h0 hn2 hl fun _ _ _ => ?_
  refine A1O M0 rfl rfl ?_
  refine A0Y ?_
  refine A0b V3 ?_
  refine A0Y ?_
  refine A0b V4 ?_
  refine A0Y ?_
  refine A0b V5 ?_
  refine A4X ?_
  refine xIf ?_
  refine A0g (Ar.val (Ea M1 (N3 hc1) (N3 hc2) M2 A0r rfl)) (Ar.val (En M3)) rfl Ci.eq ?_
  refine A0R (by fail "c3") ?_
  refine A0a ?_
  refine xIf ?_
  refine A0g (Ar.val (Ea M1 (N3 hc1) (N3 hc2) M2 A0r rfl)) (Ar.val (En M3)) rfl Ci.lt ?_
  refine A0R (by fail "c3") ?_
  refine A0a ?_
  refine xIf ?_
  refine A3K ?_
  refine A5n ?_
  refine A1F (En M4) rfl ?_
  refine A0c ?_
  refine A1D rfl ?_
  refine A0R rfl ?_
  refine A0a ?_
  refine xAs rfl ?_
  refine rM (En M0) (Gm.inst (N3 hm) (N3 hmf) A2Q rfl) (Evs.cons (En M1) (Evs.cons (En M2) Evs.nil)) rfl ?_
  refine B8c hdp (up1 hk rfl) hnp hwq (Pick.cons E1 (Pick.cons E1 Pick.nil)) (N1 hm) (N1 hmf) (N1 hs) (N1 hsf) (N1 hnw) (N1 hb) (N1 hc1) (N1 hc2) (OpsIn.mono (Grow.cons Grow.refl) ho) lo hkv hkd (by fail "c1") hold (up0 hz rfl) fun _ _ _ _ _ _ _ => ?_
  refine kAs V5 ?_
  refine xAs rfl ?_
  refine rC' (Eg A3y (Cx.Under.gl U) M4) (Callee.fn B2L) rfl rfl ?_
  refine A0m (Ea M1 (N2 (Grow.mem (by assumption) (N1 hc1))) (N2 (Grow.mem (by assumption) (N1 hc2))) M2 A0r rfl) ?_
  refine A0A rfl ?_
  refine A3O (Ea M1 (N2 (Grow.mem (by assumption) (N1 hc1))) (N2 (Grow.mem (by assumption) (N1 hc2))) M0 A0h rfl) (Eg A0z (Cx.Under.gl U) M5) rfl ?_
  refine rCm Cm.ne ?_
  refine A0m (En M5) ?_
  refine A0d ?_
  refine B7G hdp (up1 hk rfl) hnp (by fail "c3") hn0 hn1 (by omega) fun _ => ?_
  refine kAs V6 ?_
  refine A1A rfl ?_
  refine rM' (En M2) (Gm.inst (N2 (Grow.mem (by assumption) (N1 hb))) M0 A0K rfl) rfl rfl rfl ?_
  refine A0A rfl ?_
  refine rC (Eg A2C (Cx.Under.gl U) M6) (Callee.fn A8N) (Evs.cons (Ea M1 (N2 (Grow.mem (by assumption) (N1 hc1))) (N2 (Grow.mem (by assumption) (N1 hc2))) M1 A0G rfl) Evs.nil) ?_
  refine B1P hdp (up1 hk rfl) fun _ => ?_
  refine A0m (En M6) ?_
  refine A0d ?_
  rename OpsIn _ _ (ops ++ A3C _ _ _ _) => o1
  rename Grow _ _ => g1
  have z1 := o1.length
  have z2 := ho.length
  have z3 := A5g kd [wd] (Cmd.exp (.op kd n' wd e)) (get tab dk)
  rw [List.length_append] at z1
  refine A7c hdp (up1 hk rfl) (Pick.cons E0 (Pick.cons E0 Pick.nil)) (Grow.mem g1 (N1 hb)) o1 (by omega) (by decide) (by fail "c1") fun _ _ _ _ _ _ => ?_
  refine A1B ?_
  refine A3h (En M5) ?_
  rename_i g2 o2
  refine' ⟨_, ?hs, q _ _ _ _ _ (Grow.trans ?hg (Grow.trans g1 g2)) (by rw [← List.append_assoc]; exact o2)⟩
  case hs => exact Sub.refl
  case hg => exact Grow.cons Grow.refl
end
end Mine
namespace Mine
section
variable {Γ : Cx} {vs : A0e} {led R C : Led} {Q : Value → A0e → Led → Prop} {k : Nat} {w : World}
theorem B9J {m md e ed : Addr} {u1 u2 u3 u4 : Tok} {idx : Int} {cmd : Cmd} (hd : Low Γ k) (hk : k ≤ 530) (hC : Cut C R led) (hm : (m, .inst 1055 md) ∈ led) (he : (e, .inst 435 ed) ∈ led) (hef : (ed, A9H (.int 1 u1) (.int idx u2) (.int 0 u3) (.bytes cmd.data.toArray u4)) ∈ led) (hok : cmd.Ok)
  (q : ∀ c R', Grow R R' → CmdIn R' c cmd → Q (.ref c) vs (C ++ R')) : Run Γ vs led (call (.ref 996) [.ref m, .ref e]) Q := by
 have hn0 := hok.n0
 have hn1 := hok.n1
 have e1 := A8C hn0 (by omega)
 have e3 : cmd.num.toNat.toUInt8.toNat < 128 := by omega
 cases cmd with
 | opn n =>
  replace hef : (ed, A9H (.int 1 u1) (.int idx u2) (.int 0 u3) (.bytes [5, 9, n.toNat.toUInt8, 0, 0, 0].toArray u4)) ∈ led := hef
  replace e1 : ((n.toNat.toUInt8.toNat : Nat) : Int) = n := e1
  replace e3 : n.toNat.toUInt8.toNat < 128 := e3
  refine eF B0a B0C rfl hd hk [("self", some (.ref m)), ("entry", some (.ref e))] ["ENTRY_CONF", "len", "decode_command", "BadCommand"] fun Γ' U hdp hwp => ?_
  refine xIf ?_
  refine tOr ?_
  refine A0g (Ar.val (Ea M1 he hef M2 A2d rfl)) (Ar.val (Eg A3H (Cx.Under.gl U) M0)) rfl Ci.eq ?_
  refine A1D rfl ?_
  refine tOr ?_
  refine A0g (Ar.len (Eb A1n (Cx.Under.gl U) M1) (Ea M1 he hef M3 A1i rfl) (Ln.byt (by fail "c1"))) Ar.con rfl Ci.eq ?_
  refine A1D rfl ?_
  refine A0W ?_
  refine A0R rfl ?_
  refine A0a ?_
  refine A7S ?_
  refine A1U ?_
  refine rC (Eg A2u (Cx.Under.gl U) M2) (Callee.fn B0m) (Evs.cons (Ea M1 he hef M3 A1i rfl) Evs.nil) ?_
  refine B7K hdp (up1 hk rfl) e3 fun _ _ _ _ _ _ _ => ?_
  rw [e1]
  refine' ⟨_, Put.sub ?hp, q _ _ ?hg ⟨_, _, _, _, _, _, 0, ?a, ?b⟩⟩
  case hp => exact A0H (A0H (A3l hC))
  case hg => exact Grow.cons (Grow.cons Grow.refl)
  case a => exact M1
  case b => exact List.mem_cons_self
 | op kd n wd x =>
  have hkd : kd = 1 ∨ kd = 2 ∨ kd = 3 ∨ kd = 4 := by
   rcases hok.k with h | h
   ·cases h
   ·exact h
  replace e1 : ((n.toNat.toUInt8.toNat : Nat) : Int) = n := e1
  replace e3 : n.toNat.toUInt8.toNat < 128 := e3
  have e4 : ((kd.toNat.toUInt8.toNat : Nat) : Int) = kd := A8C (by omega) (by omega)
  have e5 : kd.toNat.toUInt8.toNat ≤ 6 := by omega
  cases x with
  | false =>
   replace hef : (ed, A9H (.int 1 u1) (.int idx u2) (.int 0 u3) (.bytes [kd.toNat.toUInt8, 9, n.toNat.toUInt8, 1, 107, 1, wd, 0].toArray u4)) ∈ led := hef
   refine eF B0a B0C rfl hd hk [("self", some (.ref m)), ("entry", some (.ref e))] ["ENTRY_CONF", "len", "decode_command", "BadCommand"] fun Γ' U hdp hwp => ?_
   refine xIf ?_
   refine tOr ?_
   refine A0g (Ar.val (Ea M1 he hef M2 A2d rfl)) (Ar.val (Eg A3H (Cx.Under.gl U) M0)) rfl Ci.eq ?_
   refine A1D rfl ?_
   refine tOr ?_
   refine A0g (Ar.len (Eb A1n (Cx.Under.gl U) M1) (Ea M1 he hef M3 A1i rfl) (Ln.byt (by fail "c1"))) Ar.con rfl Ci.eq ?_
   refine A1D rfl ?_
   refine A0W ?_
   refine A0R rfl ?_
   refine A0a ?_
   refine A7S ?_
   refine A1U ?_
   refine rC (Eg A2u (Cx.Under.gl U) M2) (Callee.fn B0m) (Evs.cons (Ea M1 he hef M3 A1i rfl) Evs.nil) ?_
   refine B7J hdp (up1 hk rfl) e3 e5 fun _ _ _ _ _ _ _ => ?_
   rw [e1, e4]
   refine' ⟨_, Put.sub ?hp, q _ _ ?hg ⟨_, _, _, _, _, _, 0, ?a, ?b⟩⟩
   case hp => exact A0H (A0H (A3l hC))
   case hg => exact Grow.cons (Grow.cons Grow.refl)
   case a => exact M1
   case b => exact List.mem_cons_self
  | true =>
   replace hef : (ed, A9H (.int 1 u1) (.int idx u2) (.int 0 u3) (.bytes [kd.toNat.toUInt8, 9, n.toNat.toUInt8, 1, 107, 1, wd, 1, 1, 98].toArray u4)) ∈ led := hef
   refine eF B0a B0C rfl hd hk [("self", some (.ref m)), ("entry", some (.ref e))] ["ENTRY_CONF", "len", "decode_command", "BadCommand"] fun Γ' U hdp hwp => ?_
   refine xIf ?_
   refine tOr ?_
   refine A0g (Ar.val (Ea M1 he hef M2 A2d rfl)) (Ar.val (Eg A3H (Cx.Under.gl U) M0)) rfl Ci.eq ?_
   refine A1D rfl ?_
   refine tOr ?_
   refine A0g (Ar.len (Eb A1n (Cx.Under.gl U) M1) (Ea M1 he hef M3 A1i rfl) (Ln.byt (by fail "c1"))) Ar.con rfl Ci.eq ?_
   refine A1D rfl ?_
   refine A0W ?_
   refine A0R rfl ?_
   refine A0a ?_
   refine A7S ?_
   refine A1U ?_
   refine rC (Eg A2u (Cx.Under.gl U) M2) (Callee.fn B0m) (Evs.cons (Ea M1 he hef M3 A1i rfl) Evs.nil) ?_
   refine B7I hdp (up1 hk rfl) e3 e5 fun _ _ _ _ _ _ _ _ => ?_
   rw [e1, e4]
   refine' ⟨_, Put.sub ?hp, q _ _ ?hg ⟨_, _, _, _, _, _, _, ?a, ?b⟩⟩
   case hp => exact A0H (A0H (A3l hC))
   case hg => exact Grow.cons (Grow.cons Grow.refl)
   case a => exact M1
   case b => exact List.mem_cons_self
theorem Run.nodup {α : Type} {t : Sem α} {Q : α → A0e → Led → Prop} (H : (led.map (·.1)).Nodup → Run Γ vs led t Q) : Run Γ vs led t Q := fun h tk S => H S.nd h tk S
theorem A9P : ∀ {L X R' : Led}, Grow (L ++ X) R' → L.Nodup → (∀ x ∈ L, x ∉ X) → ∃ R2, R'.Perm (L ++ R2) ∧ Grow X R2
 | [], X, R', g, _, _ => ⟨R', List.Perm.refl _, g⟩
 | x :: L, X, R', g, nd, dj => by
  obtain ⟨A, B, e⟩ := List.append_of_mem (g x (List.mem_append_left _ List.mem_cons_self))
  subst e
  rw [List.nodup_cons] at nd
  have g' : Grow (L ++ X) (A ++ B) := by
   intro y hy
   have hne : y ≠ x := by
    rintro rfl
    rcases List.mem_append.1 hy with h | h
    ·exact nd.1 h
    ·exact dj _ List.mem_cons_self h
   have := g y (by rw [List.cons_append]; exact List.mem_cons_of_mem _ hy)
   simp only [List.mem_append, List.mem_cons] at this ⊢
   rcases this with h | h | h
   ·exact .inl h
   ·exact absurd h hne
   ·exact .inr h
  obtain ⟨R2, p, g2⟩ := A9P g' nd.2 (fun y hy => dj y (List.mem_cons_of_mem _ hy))
  exact ⟨R2, List.perm_middle.trans (p.cons x), g2⟩
theorem A9U {L R : Led} (h : ((L ++ R).map (·.1)).Nodup) : L.Nodup ∧ ∀ x ∈ L, x ∉ R := by
 rw [List.map_append, List.nodup_append] at h
 exact ⟨List.Pairwise.of_map _ (fun a b (h : a.1 ≠ b.1) e => h (e ▸ rfl)) h.1, fun x hx hr => h.2.2 _ (List.mem_map_of_mem hx) _ (List.mem_map_of_mem hr) rfl⟩
theorem OpsIn.from {R : Led} {vs : List Value} {ops : List Op} {L R2 : Led} (h : OpsIn R vs ops) (p : R.Perm (L ++ R2)) (nt : ∀ x ∈ L, ∀ l, x.2 ≠ .tup l) : OpsIn R2 vs ops := by
 induction h with
 | nil => exact .nil
 | cons a _ ih =>
  refine .cons ?_ ih
  obtain ⟨r, t1, t2, t3, e, a⟩ := a
  refine ⟨r, t1, t2, t3, e, ?_⟩
  rcases List.mem_append.1 (p.mem_iff.1 a) with h | h
  ·exact absurd rfl (nt _ h _)
  ·exact h
theorem DoRes.len {tab : Tab} {c : Cmd} {rep : By} {ops : List Op} (h : DoRes tab c rep ops) : ops.length ≤ 2 := by
 cases h with
 | dup => simp
 | stale => simp
 | opn => simp
 | eff h1 h2 h3 h4 => simp only [List.length_append, List.length_cons, List.length_nil]; have := A5g ‹Int› [‹UInt8›] (Cmd.exp (.op ‹Int› ‹Int› ‹UInt8› ‹Bool›)) (get tab dk); first | omega | (have := A5g; grind)
theorem B9K {m md s sd nw ba e ed : Addr} {tm du kp : Value} {la idx0 idx : Int} {tc ta tl u1 u2 u3 u4 : Tok} {kvs : List (By × Value)} {tab : Tab} {bv : List Value} {cmd : Cmd} {rep : By} {ops : List Op} (hd : Low Γ k) (hk : k ≤ 500) (hn : Γ.nd = true) (hw : Γ.w = w)
  (P : Pick [(md, A5z s (.int idx0 ta) tm du tc), (sd, A4o nw ba kp (.int la tl)), (nw, .bdict w kvs), (ba, .list bv)] led R) (hm : (m, .inst 1055 md) ∈ R) (hs : (s, .inst 1132 sd) ∈ R) (he : (e, .inst 435 ed) ∈ R) (hef : (ed, A9H (.int 1 u1) (.int idx u2) (.int 0 u3) (.bytes cmd.data.toArray u4)) ∈ R)
  (lo : Ok nw) (hkv : KvIs kvs tab) (hok : cmd.Ok) (hr : DoRes tab cmd rep ops) (hold : ∀ v, get tab dk = some v → v.length < 60) (hi : idx = idx0 + 1) (h0 : 0 ≤ idx) (h1 : idx < 128) (hz : bv.length ≤ 800) (hz2 : tab.length ≤ 50)
  (q : ∀ R' kvs' bv' la' ta' tm' tc' tl' t, Grow R R' → KvIs kvs' ((ops ++ [Op.put ak [idx.toNat.toUInt8, 1, 0]]).foldl Op.run tab) → bv'.length = bv.length + 1 →
   Q (.bytes rep.toArray t) vs ((md, A5z s (.int idx ta') (.int 1 tm') du tc') :: (sd, A4o nw ba kp (.int la' tl')) :: (nw, .bdict w kvs') :: (ba, .list bv') :: R')) : Run Γ vs led (call (.ref 989) [.ref m, .ref e, .none]) Q := by
 refine Run.pick4 P ?_
 refine Run.nodup fun hnd => ?_
 have hops := hr.len
 refine eF B5D B6P rfl hd hk [("self", some (.ref m)), ("entry", some (.ref e)), ("conf", some (.none)), ("conf_octets", none), ("batch", none), ("reply", none), ("command", none)] ["AppliedGap", "encode_conf", "WriteBatch"] fun Γ' U hdp hwp => ?_
 have hnp := U.nd.trans hn
 have hwq := U.w.trans hw
 refine xIf ?_
 refine A0g (Ar.val (Ea M1 (N4 he) (N4 hef) M1 A1T rfl)) (Ar.bin (Ar.val (Ea M0 (N4 hm) M0 M1 A1u rfl)) Ar.con Bo.add) rfl Ci.ne ?_
 refine A0R (by fail "c3") ?_
 refine A0a ?_
 refine A4Y (Ea M0 (N4 hm) M0 M3 A1b rfl) rfl V3 ?_
 refine xIf ?_
 refine A1K (En M2) Eo rfl Cm.noNN ?_
 refine A0R rfl ?_
 refine A0a ?_
 refine xAs rfl ?_
 refine rC (Eg A6Q (Cx.Under.gl U) M2) (Callee.fn (Cls.keeps A2r)) Evs.nil ?_
 refine B9N hdp (up1 hk rfl) fun _ _ _ _ => ?_
 refine kAs V4 ?_
 refine A4Y Eo rfl V5 ?_
 refine xAs rfl ?_
 refine rM (En M0) (Gm.inst (N7 hm) M3 A3T rfl) (Evs.cons (En M1) Evs.nil) rfl ?_
 refine B9J hdp (up1 hk rfl) (Cut.cons (Cut.cons (Cut.cons (Cut.cons (Cut.cons (Cut.cons (Cut.cons Cut.nil))))))) (N7 hm) (N7 he) (N7 hef) hok fun _ _ _ _ => ?_
 dsimp only [List.cons_append, List.nil_append]
 refine kAs V6 ?_
 refine xIf ?_
 refine A1K (En M6) Eo rfl (Cm.noN (fun e => Value.noConfusion e)) ?_
 refine A2s rfl ?_
 refine xAs rfl ?_
 refine rM (En M0) (Gm.inst (N7 (Grow.mem (by assumption) hm)) M3 A3S rfl) (Evs.cons (En M6) (Evs.cons (En M4) Evs.nil)) rfl ?_
 refine B4N hdp (up1 hk rfl) hnp hwq (Pick.cons E0 (Pick.cons E0 Pick.nil)) (N5 (Grow.mem (by assumption) hm)) M1 (N5 (Grow.mem (by assumption) hs)) M2 M3 M0 (CmdIn.mono (Grow.cons (Grow.cons (Grow.cons (Grow.cons (Grow.cons Grow.refl))))) (by assumption)) OpsIn.nil lo hkv hok hr hold (by decide) fun _ _ _ _ _ _ _ => ?_
 refine kAs V5 ?_
 refine A0a ?_
 refine A1A rfl ?_
 refine rM (En M0) (Gm.inst (N2 (Grow.mem (by assumption) (N5 (Grow.mem (by assumption) hm)))) (N2 (Grow.mem (by assumption) M1)) A3L rfl) (Evs.cons (En M4) (Evs.cons (Ea M1 (N2 (Grow.mem (by assumption) (N5 (Grow.mem (by assumption) he)))) (N2 (Grow.mem (by assumption) (N5 (Grow.mem (by assumption) hef)))) M1 A1T rfl) (Evs.cons (Ea M1 (N2 (Grow.mem (by assumption) (N5 (Grow.mem (by assumption) he)))) (N2 (Grow.mem (by assumption) (N5 (Grow.mem (by assumption) hef)))) M0 A2D rfl) (Evs.cons (En M3) Evs.nil)))) rfl ?_
 have o1 := ‹OpsIn _ _ ([] ++ ops)›
 have o2 := o1.length
 simp only [List.nil_append] at o2
 refine B9L hdp (up1 hk rfl) hnp (Pick.cons E0 (Pick.cons E0 Pick.nil)) (Grow.mem (by assumption) M0) o1 (by omega) h0 h1 fun _ _ _ _ _ _ => ?_
 refine A1B ?_
 refine A1A rfl ?_
 refine rM (Ea M0 (N2 (Grow.mem (by assumption) (Grow.mem (by assumption) (N5 (Grow.mem (by assumption) hm))))) (N2 (Grow.mem (by assumption) (Grow.mem (by assumption) M1))) M0 A0i rfl) (Gm.inst (N2 (Grow.mem (by assumption) (Grow.mem (by assumption) (N5 (Grow.mem (by assumption) hs))))) (N2 (Grow.mem (by assumption) (Grow.mem (by assumption) M2))) A5c rfl) (Evs.cons (En M4) (Evs.cons (Ea M0 (N2 (Grow.mem (by assumption) (Grow.mem (by assumption) (N5 (Grow.mem (by assumption) hm))))) (N2 (Grow.mem (by assumption) (Grow.mem (by assumption) M1))) M5 A1S rfl) Evs.nil)) rfl ?_
 rename_i b bd rw tA c R1 gA hcmd R2 rv2 x2 tb2 trep gB oB R3 rv3 x3 t3 gC oC
 obtain ⟨hnd2, hnd3⟩ := A9U (L := [(md, A5z s (.int idx0 ta) tm du tc), (sd, A4o nw ba kp (.int la tl)), (nw, .bdict w kvs), (ba, .list bv)]) hnd
 have G : Grow ([(md, A5z s (.int idx0 ta) tm du tc), (sd, A4o nw ba kp (.int la tl)), (nw, .bdict w kvs), (ba, .list bv)] ++ ((b, LObj.inst 831 bd) :: R)) R3 := by
  intro x h
  apply gC; apply gB
  simp only [List.cons_append, List.nil_append, List.mem_cons] at h ⊢
  rcases h with h | h | h | h | h | h
  ·exact .inr (.inl h)
  ·exact .inr (.inr (.inl h))
  ·exact .inr (.inr (.inr (.inl h)))
  ·exact .inr (.inr (.inr (.inr (.inl h))))
  ·exact .inl h
  ·exact .inr (.inr (.inr (.inr (.inr (gA _ h)))))
 obtain ⟨R4, hp, gD⟩ := A9P G hnd2 (by
  intro x hx
  rw [List.mem_cons, not_or]
  refine ⟨?_, hnd3 x hx⟩
  simp only [List.mem_cons, List.not_mem_nil, or_false] at hx
  rcases hx with h | h | h | h <;> subst h <;> intro h <;> cases h)
 have oD := oC.from hp (by
  intro x hx l
  simp only [List.mem_cons, List.not_mem_nil, or_false] at hx
  rcases hx with h | h | h | h <;> subst h <;> intro h <;> cases h)
 have hbm : (b, LObj.inst 831 bd) ∈ R4 := gD _ List.mem_cons_self
 have gE : Grow R R4 := fun x h => gD _ (List.mem_cons_of_mem _ h)
 have hmm := gE _ hm
 have hsm := gE _ hs
 have hem := gE _ he
 have hefm := gE _ hef
 have oz := oC.length
 simp only [List.nil_append, List.length_append, List.length_cons, List.length_nil] at oz
 refine Run.sub (led' := (bd, A6d rw (.int x3 t3)) :: (rw, .list rv3) :: (md, A5z s (.int idx0 ta) tm du tc) :: (sd, A4o nw ba kp (.int la tl)) :: (nw, .bdict w kvs) :: (ba, .list bv) :: R4) ?hsub ?_
 case hsub => exact Sub.of_perm (g := []) (by rw [List.append_nil]; exact (hp.cons _).cons _)
 refine B8a hdp (up1 hk rfl) hwq (Pick.cons E3 (Pick.cons E3 (Pick.cons E3 Pick.nil))) (N3 hsm) (N3 hbm) M0 M1 (OpsIn.mono (Grow.cons (Grow.cons (Grow.cons Grow.refl))) oD) lo hkv (fun _ => (by omega)) (by omega) (up0 hz rfl) (up0 hz2 rfl) fun _ _ _ _ _ _ _ => ?_
 refine A1B ?_
 refine A1x (Ea M1 (N6 hem) (N6 hefm) M1 A1T rfl) rfl ?_
 refine A4A (En M0) (N6 hmm) U5 F1 A1u A4Z ?_
 refine A1x (Ea M1 (N6 hem) (N6 hefm) M0 A2D rfl) rfl ?_
 refine A4A (En M0) (N6 hmm) U5 F2 A2g A4Z ?_
 refine A1x (En M3) rfl ?_
 refine A4A (En M0) (N6 hmm) U5 F3 A1b A4Z ?_
 refine xIf ?_
 refine A1F (Ea M0 (N6 hmm) M5 M5 A1S rfl) rfl ?_
 refine A0c ?_
 refine A0R rfl ?_
 refine A0a ?_
 refine A3h (En M5) ?_
 rename_i kvs' bv' la' tl' tq hkv' hbv'
 refine ⟨_, ?hs, q ((bd, A6d rw (.int x3 t3)) :: (rw, .list rv3) :: R4) kvs' bv' la' u2 u1 tc tl' trep (Grow.cons (Grow.cons gE)) hkv' hbv'⟩
 case hs => (refine' Sub.cons ?se ?ss; (case se => exact E5); (case ss => exact Sub.refl))
end
end Mine
namespace Mine
section
variable {Γ : Cx} {vs : A0e} {led : Led} {k : List (List Stmt)} {rest : List Stmt} {Q : Flow → A0e → Led → Prop}
theorem B1j {target iter : Expr} {body : List Stmt} {pos : Pos}
  (H : Run Γ vs led (eval iter Γ.env) fun w vs' led' => Stop (∃ l xs, ∃ J : Nat → A0e → Led → Prop, w = .ref l ∧ (l, LObj.list xs) ∈ led' ∧ J 0 vs' led' ∧ (∀ i vs L, J i vs L → (l, LObj.list xs) ∈ L) ∧
   (∀ i v vs L a, xs[i]? = some v → J i vs L → Run Γ vs ((a, itL l (i + 1)) :: L) (assign target Γ.env v) fun _ vs led => Do Γ vs led [body] fun f vs led => match f with
     | .next | .cont => ∃ led₁, Sub ((a, itL l (i + 1)) :: led₁) led ∧ J (i + 1) vs led₁
     | .brk => Do Γ vs led (rest :: k) Q
     | .ret v => Q (.ret v) vs led) ∧
   (∀ vs L, J xs.length vs L → Do Γ vs L (rest :: k) Q)))
  (hs : ∀ x, foldedSetIterable iter Γ.env x = pure x) (ht : ∀ it v, letOwnedTupleGo target it v = pure ()) : Do Γ vs led ((.For target iter body [] pos :: rest) :: k) Q := by
 refine B2f (H.mono fun w vs' led' zz => ?_) hs ht
 obtain ⟨l, xs, J, e, hl, j, hJ, turn, done⟩ := zz
 subst e
 exact ⟨_, _, _, _, A2E _ l xs, A3W hl fun a => ⟨a, led', J, rfl, .refl, j, hJ, fun i v vs L _ hv j => turn i v vs L a hv j, done⟩⟩
theorem A5m {elts : List Expr} {x1 : Nat} {tp : Pos} {iter : Expr} {body : List Stmt} {pos : Pos}
  (H : Run Γ vs led (eval iter Γ.env) fun w vs' led' => Stop (∃ l xs, ∃ J : Nat → A0e → Led → Prop, w = .ref l ∧ (l, LObj.list xs) ∈ led' ∧ J 0 vs' led' ∧ (∀ i vs L, J i vs L → (l, LObj.list xs) ∈ L) ∧
   (∀ i v vs L a, xs[i]? = some v → J i vs L → ∃ T, v = .ref T ∧ Run Γ vs ((a, itL l (i + 1)) :: L) (assign (.Tuple elts x1 tp) Γ.env (.ref T)) fun _ vs led => Do Γ vs led [body] fun f vs led => match f with
     | .next | .cont => ∃ led₁, Sub ((a, itL l (i + 1)) :: led₁) led ∧ J (i + 1) vs led₁
     | .brk => Do Γ vs led (rest :: k) Q
     | .ret v => Q (.ret v) vs led) ∧
   (∀ vs L, J xs.length vs L → Do Γ vs L (rest :: k) Q)))
  (hs : ∀ x, foldedSetIterable iter Γ.env x = pure x) : Do Γ vs led ((.For (.Tuple elts x1 tp) iter body [] pos :: rest) :: k) Q := by
 refine B0U (H.mono fun w vs' led' zz => ?_) hs
 obtain ⟨l, xs, J, e, hl, j, hJ, turn, done⟩ := zz
 subst e
 refine ⟨_, _, _, _, A2E _ l xs, A3W hl fun a => ⟨a, led', J, rfl, .refl, j, hJ, fun i v vs L _ hv j => ?_, done⟩⟩
 obtain ⟨T, rfl, h⟩ := turn i v vs L a hv j
 exact B0u (.head _) h
end
theorem BysAre.at {xs : List Value} {ks : List By} (h : BysAre xs ks) : ∀ {i : Nat} {v : Value}, xs[i]? = some v → ∃ k t, v = .bytes k.toArray t ∧ ks[i]? = some k := by
 induction h with
 | nil => intro i v e; simp at e
 | @cons k t vs ks _ ih =>
  intro i v e
  cases i with
  | zero => simp at e; subst e; exact ⟨k, t, rfl, rfl⟩
  | succ i => simp at e; simpa using ih e
theorem BysAre.len {xs : List Value} {ks : List By} (h : BysAre xs ks) : xs.length = ks.length := by
 induction h with
 | nil => rfl
 | cons _ ih => simp [ih]
noncomputable def inr (l h k : By) : Bool := decide (¬ A3m k < A3m l) && decide (A3m k < A3m h)
inductive KVsIn (R : Led) (tab : Tab) : List Value → List By → Prop
 | nil : KVsIn R tab [] []
 | cons {r : Addr} {k v : By} {t1 t2 : Tok} {vs ks} : (r, LObj.tup [.bytes k.toArray t1, .bytes v.toArray t2]) ∈ R → get tab k = some v → KVsIn R tab vs ks → KVsIn R tab (.ref r :: vs) (k :: ks)
theorem KVsIn.mono {R R' : Led} {tab : Tab} {vs : List Value} {ks : List By} (g : Grow R R') (h : KVsIn R tab vs ks) : KVsIn R' tab vs ks := by
 induction h with
 | nil => exact .nil
 | cons a b _ ih => exact .cons (g _ a) b ih
theorem KVsIn.app {R : Led} {tab : Tab} {a b : List Value} {x y : List By} (h : KVsIn R tab a x) (h' : KVsIn R tab b y) : KVsIn R tab (a ++ b) (x ++ y) := by
 induction h with
 | nil => exact h'
 | cons c d _ ih => exact .cons c d ih
theorem KVsIn.len {R : Led} {tab : Tab} {a : List Value} {x : List By} (h : KVsIn R tab a x) : a.length = x.length := by
 induction h with
 | nil => rfl
 | cons _ _ _ ih => simp [ih]
theorem B4f {tab : Tab} {k : By} (h : k ∈ tab.map (·.1)) : ∃ v, get tab k = some v := by
 rw [List.mem_map] at h
 obtain ⟨p, hp, e⟩ := h
 unfold get
 cases hf : tab.find? (fun p => p.1 = k) with
 | some q => exact ⟨_, rfl⟩
 | none => rw [List.find?_eq_none] at hf; exact absurd (by simpa using e) (hf p hp)
section
variable {Γ : Cx} {vs : A0e} {led R C : Led} {Q : Value → A0e → Led → Prop} {k : Nat} {w : World}
theorem B0O {s sd nw ba : Addr} {kp la : Value} {kvs : List (By × Value)} {tab : Tab} {l h : By} {tl th : Tok} (hd : Low Γ k) (hk : k ≤ 570) (hw : Γ.w = w) (hC : Cut C R led) (hs : (s, .inst 1132 sd) ∈ led) (hsf : (sd, A4o nw ba kp la) ∈ led) (hnw : (nw, .bdict w kvs) ∈ led) (lo : Ok nw) (hkv : KvIs kvs tab) (hz : tab.length < 64)
  (q : ∀ D fv ks R', Grow R R' → KVsIn R' tab fv ks → ks.Perm ((tab.map (·.1)).filter (inr l h)) → Q (.ref D) vs ((D, .list fv) :: (C ++ R'))) : Run Γ vs led (call (.ref 1122) [.ref s, .bytes l.toArray tl, .bytes h.toArray th, .none]) Q := by
 have hz' := hkv.length
 refine eF B3T B4q rfl hd hk [("self", some (.ref s)), ("low", some (.bytes l.toArray tl)), ("high", some (.bytes h.toArray th)), ("snap", some (.none)), ("found", none), ("key", none)] ["BadOption", "sorted"] fun Γ' U hdp hwp => ?_
 try (have hwq := U.w.trans hw)
 refine xIf ?_
 refine A1K (En M3) Eo rfl Cm.noNN ?_
 refine A0R rfl ?_
 refine A0a ?_
 refine xAs rfl ?_
 refine A3r Evs.nil ?_
 refine A0o (by decide) fun _ => ?_
 refine kAs V4 ?_
 refine B1j ?H (by intro _; rfl) (by intro _ _; rfl)
 refine rC (Eb B0v (Cx.Under.gl U) M1) Callee.bi (Evs.cons (Ea M0 (N1 hs) (N1 hsf) M0 A1d rfl) Evs.nil) ?_
 refine B1L (kvs := kvs) (w := w) ?hw ?hm ?hlo ?h64 ?_
 case hm => exact N1 hnw
 case hw => assumption
 case hlo => assumption
 case h64 => omega
 rename_i fD
 intro D xs ks hb hp _
 rw [hkv.keys] at hp
 refine Stop.mk ⟨D, xs, fun i vs' L => ∃ o fv E R', vs' = [(.ofString "self", some (.ref s)), (.ofString "low", some (.bytes l.toArray tl)), (.ofString "high", some (.bytes h.toArray th)), (.ofString "snap", some .none), (.ofString "found", some (.ref fD)), (.ofString "key", o)] ∧ L = (D, .list xs) :: (fD, .list fv) :: R' ∧ Grow led R' ∧ R' = E ++ led ∧ fv.length ≤ i ∧ KVsIn E tab fv ((ks.take i).filter (inr l h)), rfl, by exact M0, ?j0, ?hJ, ?turn, ?done⟩
 case j0 => exact ⟨none, [], [], led, rfl, rfl, Grow.refl, rfl, Nat.le_refl _, .nil⟩
 case hJ =>
  rintro i vs' L ⟨o, fv, E, R', rfl, rfl, _⟩
  exact M0
 case turn =>
  rintro i v vs' L a hv ⟨o, fv, E, R', rfl, rfl, g, hE, hfl, kv⟩
  obtain ⟨key, tk, rfl, hkey⟩ := hb.at hv
  have hmem : key ∈ tab.map (·.1) := hp.mem_iff.1 (List.mem_of_getElem? hkey)
  obtain ⟨val, hval⟩ := B4f hmem
  have hil := (List.getElem?_eq_some_iff.mp hv).1
  have hbl := hb.len
  have hpl := hp.length_eq
  rw [List.length_map] at hpl
  rcases hkv.get key with ⟨g1, g2⟩ | ⟨v', t', g1, g2⟩
  ·rw [hval] at g1; cases g1
  have g3 : PySem.valueAt kvs key.toArray.toList = some (.bytes v'.toArray t') := g2
  by_cases c1 : A3m key < A3m l
  ·have e1 : inr l h key = false := by simp [inr, c1]
   refine A0b V5 ?_
   refine xIf ?_
   refine A3K ?_
   refine A1K (En M1) Eo rfl (Cm.noN (fun e => Value.noConfusion e)) ?_
   refine A3N rfl ?_
   refine A3K ?_
   refine A4I (En M5) rfl ?_
   refine rE (En M1) ?_
   refine B4x ?_
   refine A0c ?_
   refine A3N (by fail "c3") ?_
   refine A2I ?_
   refine A2s rfl ?_
   refine A6C ?_
   dsimp only
   refine' ⟨_, ?hs, _, fv, E, R', rfl, rfl, g, hE, by omega, ?hk⟩
   case hs => exact Sub.refl
   case hk => rw [A2Z hkey, List.filter_append, List.filter_cons_of_neg (by rw [e1]; decide), List.filter_nil, List.append_nil]; exact kv
  by_cases c2 : A3m key < A3m h
  ·have e1 : inr l h key = true := by simp [inr, c1, c2]
   refine A0b V5 ?_
   refine xIf ?_
   refine A3K ?_
   refine A1K (En M1) Eo rfl (Cm.noN (fun e => Value.noConfusion e)) ?_
   refine A3N rfl ?_
   refine A3K ?_
   refine A4I (En M5) rfl ?_
   refine rE (En M1) ?_
   refine B4x ?_
   refine A0c ?_
   refine A1D (by fail "c3") ?_
   refine A0R rfl ?_
   refine A0a ?_
   refine xIf ?_
   refine A3K ?_
   refine A1K (En M2) Eo rfl (Cm.noN (fun e => Value.noConfusion e)) ?_
   refine A3N rfl ?_
   refine A3K ?_
   refine A4I (En M5) rfl ?_
   refine rE (En M2) ?_
   refine B7C ?_
   refine A0c ?_
   refine A1D (by fail "c3") ?_
   refine A0R rfl ?_
   refine A0a ?_
   refine A1A rfl ?_
   refine rM' (En M4) (Gm.app M2) rfl rfl rfl ?_
   refine A0A rfl ?_
   refine A6s ?_
   refine A0m (En M5) ?_
   refine A0A rfl ?_
   refine B9g (Ea M0 (N3 (Grow.mem g hs)) (N3 (Grow.mem g hsf)) M0 A1d rfl) (En M5) ?_
   dsimp only
   refine B6N (kvs := kvs) (w := w) ?hw ?hm g3 ?_ (by with_unfolding_all rfl)
   case hm => exact N3 (Grow.mem g hnw)
   case hw => assumption
   refine A0d ?_
   refine A0q (by fail "c3") fun _ => ?_
   refine A0d ?_
   refine A0y U3 (by omega) ?_
   refine A1B ?_
   refine A0a ?_
   refine A0n ?_
   dsimp only
   rename_i T
   refine' ⟨_, ?hs, _, fv ++ [.ref T], (T, .tup [.bytes key.toArray tk, .bytes v'.toArray t']) :: E, (T, .tup [.bytes key.toArray tk, .bytes v'.toArray t']) :: R', rfl, rfl, g.cons, by rw [hE]; rfl, by simp; omega, ?hk⟩
   case hs => (refine' Sub.cons ?se ?ss; (case se => exact E1); (case ss => (refine' Sub.cons ?se ?ss; (case se => exact E1); (case ss => (refine' Sub.cons ?se ?ss; (case se => exact E1); (case ss => exact Sub.refl))))))
   case hk =>
    rw [A2Z hkey, List.filter_append, List.filter_cons_of_pos (by rw [e1]), List.filter_nil]
    exact (kv.mono Grow.refl.cons).app (.cons (.head _) g1 .nil)
  ·have e1 : inr l h key = false := by simp [inr, c2]
   refine A0b V5 ?_
   refine xIf ?_
   refine A3K ?_
   refine A1K (En M1) Eo rfl (Cm.noN (fun e => Value.noConfusion e)) ?_
   refine A3N rfl ?_
   refine A3K ?_
   refine A4I (En M5) rfl ?_
   refine rE (En M1) ?_
   refine B4x ?_
   refine A0c ?_
   refine A1D (by fail "c3") ?_
   refine A0R rfl ?_
   refine A0a ?_
   refine xIf ?_
   refine A3K ?_
   refine A1K (En M2) Eo rfl (Cm.noN (fun e => Value.noConfusion e)) ?_
   refine A3N rfl ?_
   refine A3K ?_
   refine A4I (En M5) rfl ?_
   refine rE (En M2) ?_
   refine B7C ?_
   refine A0c ?_
   refine A3N (by fail "c3") ?_
   refine A2I ?_
   refine A2s rfl ?_
   refine A6C ?_
   dsimp only
   refine' ⟨_, ?hs, _, fv, E, R', rfl, rfl, g, hE, by omega, ?hk⟩
   case hs => exact Sub.refl
   case hk => rw [A2Z hkey, List.filter_append, List.filter_cons_of_neg (by rw [e1]; decide), List.filter_nil, List.append_nil]; exact kv
 case done =>
  rintro vs' L ⟨o, fv, E, R', rfl, rfl, g, hE, hfl, kv⟩
  rw [List.take_of_length_le (Nat.le_of_eq hb.len.symm)] at kv
  refine A3h (En M4) ?_
  refine ⟨_, ?hs, q fD fv _ ((D, .list xs) :: (E ++ R)) (fun x hx => .tail _ (List.mem_append_right _ hx)) (kv.mono fun x hx => .tail _ (List.mem_append_left _ hx)) (hp.filter _)⟩
  refine Sub.of_perm (g := []) ?_
  rw [List.append_nil, hE, hC.eq]
  refine List.Perm.trans (List.Perm.swap _ _ _) (List.Perm.cons _ ?_)
  refine List.Perm.trans (List.Perm.cons _ ?_) List.perm_middle.symm
  rw [← List.append_assoc, ← List.append_assoc]
  exact List.Perm.append_right _ List.perm_append_comm
end
end Mine
namespace Mine
theorem KVsIn.nil_of {R : Led} {tab : Tab} {fv : List Value} {ks ml : List By} (h : KVsIn R tab fv ks) (p : ks.Perm ml) (e : ml = []) : fv = [] := by
 subst e; rw [List.perm_nil] at p; subst p; cases h; rfl
theorem KVsIn.one_of {R : Led} {tab : Tab} {fv : List Value} {ks ml : List By} {k v : By} (h : KVsIn R tab fv ks) (p : ks.Perm ml) (e : ml = [k]) (hv : get tab k = some v) : ∃ r t1 t2, fv = [.ref r] ∧ (r, LObj.tup [.bytes k.toArray t1, .bytes v.toArray t2]) ∈ R := by
 subst e; rw [List.perm_singleton] at p; subst p
 cases h with
 | cons a b c =>
  cases c
  rw [hv] at b
  cases b
  exact ⟨_, _, _, rfl, a⟩
section
variable {Γ : Cx} {vs : A0e} {led R C : Led} {Q : Value → A0e → Led → Prop} {k : Nat} {w : World}
theorem B4K {m md s sd nw ba : Addr} {ap tm du kp la : Value} {tc : Tok} {kvs : List (By × Value)} {tab : Tab} (hd : Low Γ k) (hk : k ≤ 560) (hw : Γ.w = w) (hC : Cut C R led) (hm : (m, .inst 1055 md) ∈ led) (hmf : (md, A5z s ap tm du tc) ∈ led) (hs : (s, .inst 1132 sd) ∈ led) (hsf : (sd, A4o nw ba kp la) ∈ led) (hnw : (nw, .bdict w kvs) ∈ led) (lo : Ok nw) (hkv : KvIs kvs tab) (hz : tab.length < 64)
  (hf : (tab.map (·.1)).filter (inr [100] [101]) = [])
  (q : ∀ D R', Grow R R' → Q (.ref D) vs ((D, .list []) :: (C ++ R'))) : Run Γ vs led (call (.ref 1038) [.ref m]) Q := by
 refine eF B0e B0G rfl hd hk [("self", some (.ref m)), ("found", none), ("place", none), ("value", none)] ["DATA_HEAD", "DATA_END", "len"] fun Γ' U hdp hwp => ?_
 have hwq := U.w.trans hw
 refine xAs rfl ?_
 refine A3r Evs.nil ?_
 refine A0o (by decide) fun _ => ?_
 refine kAs V1 ?_
 rename_i fD
 refine A5m ?H (by intro _; rfl)
 refine rM (Ea M0 (N1 hm) (N1 hmf) M0 A0i rfl) (Gm.inst (N1 hs) (N1 hsf) A2J rfl) (Evs.cons (Eg A3o (Cx.Under.gl U) M0) (Evs.cons (Eg A5Q (Cx.Under.gl U) M1) (Evs.cons Eo Evs.nil))) rfl ?_
 refine B0O hdp (up1 hk rfl) hwq (Cut.cons hC) (N1 hs) (N1 hsf) (N1 hnw) lo hkv hz fun _ _ _ _ _ _ _ => ?_
 dsimp only [List.cons_append, List.nil_append]
 rename_i D fv ks R' g kv hp
 have := kv.nil_of hp hf
 subst this
 refine Stop.mk ⟨D, [], fun i vs' L => vs' = [(.ofString "self", some (.ref m)), (.ofString "found", some (.ref fD)), (.ofString "place", none), (.ofString "value", none)] ∧ L = (D, .list []) :: (fD, .list []) :: (C ++ R'), rfl, by exact M0, ⟨rfl, rfl⟩, ?hJ, ?turn, ?done⟩
 case hJ =>
  rintro i vs' L ⟨rfl, rfl⟩
  exact M0
 case turn =>
  intro i v vs' L a hv
  cases hv
 case done =>
  rintro vs' L ⟨rfl, rfl⟩
  refine A3h (En M1) ?_
  refine ⟨_, ?hs, q fD ((D, .list []) :: R') g.cons⟩
  refine Sub.of_perm (g := []) ?_
  rw [List.append_nil]
  exact List.Perm.trans (List.Perm.swap _ _ _) (List.Perm.cons _ List.perm_middle.symm)
theorem B4J {m md s sd nw ba : Addr} {ap tm du kp la : Value} {tc : Tok} {kvs : List (By × Value)} {tab : Tab} {val : By} (hd : Low Γ k) (hk : k ≤ 560) (hw : Γ.w = w) (hC : Cut C R led) (hm : (m, .inst 1055 md) ∈ led) (hmf : (md, A5z s ap tm du tc) ∈ led) (hs : (s, .inst 1132 sd) ∈ led) (hsf : (sd, A4o nw ba kp la) ∈ led) (hnw : (nw, .bdict w kvs) ∈ led) (lo : Ok nw) (hkv : KvIs kvs tab) (hz : tab.length < 64)
  (hf : (tab.map (·.1)).filter (inr [100] [101]) = [dk]) (hg : get tab dk = some val)
  (q : ∀ D r t1 t2 R', Grow R R' → (r, .tup [.bytes #[107] t1, .bytes val.toArray t2]) ∈ R' → Q (.ref D) vs ((D, .list [.ref r]) :: (C ++ R'))) : Run Γ vs led (call (.ref 1038) [.ref m]) Q := by
 refine eF B0e B0G rfl hd hk [("self", some (.ref m)), ("found", none), ("place", none), ("value", none)] ["DATA_HEAD", "DATA_END", "len"] fun Γ' U hdp hwp => ?_
 have hwq := U.w.trans hw
 refine xAs rfl ?_
 refine A3r Evs.nil ?_
 refine A0o (by decide) fun _ => ?_
 refine kAs V1 ?_
 rename_i fD
 refine A5m ?H (by intro _; rfl)
 refine rM (Ea M0 (N1 hm) (N1 hmf) M0 A0i rfl) (Gm.inst (N1 hs) (N1 hsf) A2J rfl) (Evs.cons (Eg A3o (Cx.Under.gl U) M0) (Evs.cons (Eg A5Q (Cx.Under.gl U) M1) (Evs.cons Eo Evs.nil))) rfl ?_
 refine B0O hdp (up1 hk rfl) hwq (Cut.cons hC) (N1 hs) (N1 hsf) (N1 hnw) lo hkv hz fun _ _ _ _ _ _ _ => ?_
 dsimp only [List.cons_append, List.nil_append]
 rename_i D fv ks R' g kv hp
 obtain ⟨r, t1, t2, e, hr⟩ := kv.one_of hp hf hg
 subst e
 have hr' : (r, LObj.tup [.bytes #[100, 107] t1, .bytes val.toArray t2]) ∈ C ++ R' := List.mem_append_right _ hr
 refine Stop.mk ⟨D, [.ref r], fun i vs' L => (i = 0 ∧ vs' = [(.ofString "self", some (.ref m)), (.ofString "found", some (.ref fD)), (.ofString "place", none), (.ofString "value", none)] ∧ L = (D, .list [.ref r]) :: (fD, .list []) :: (C ++ R')) ∨
  (i = 1 ∧ ∃ o1 o2 T t3, vs' = [(.ofString "self", some (.ref m)), (.ofString "found", some (.ref fD)), (.ofString "place", o1), (.ofString "value", o2)] ∧ L = (D, .list [.ref r]) :: (T, .tup [.bytes #[107] t3, .bytes val.toArray t2]) :: (fD, .list [.ref T]) :: (C ++ R')), rfl, by exact M0, .inl ⟨rfl, rfl, rfl⟩, ?hJ, ?turn, ?done⟩
 case hJ =>
  rintro i vs' L (⟨rfl, rfl, rfl⟩ | ⟨rfl, o1, o2, T, t3, rfl, rfl⟩)
  ·exact M0
  ·exact M0
 case turn =>
  rintro i v vs' L a hv (⟨rfl, rfl, rfl⟩ | ⟨rfl, _⟩)
  ·cases hv
   refine ⟨r, rfl, ?_⟩
   refine A1O (N3 hr') rfl rfl ?_
   refine A0Y ?_
   refine A0b V2 ?_
   refine A0Y ?_
   refine A0b V3 ?_
   refine A4X ?_
   refine A1A rfl ?_
   refine rM' (En M1) (Gm.app M2) rfl rfl rfl ?_
   refine A0A rfl ?_
   refine A6s ?_
   refine A0A rfl ?_
   refine B1u (En M2) ?_
   refine A7g ?_
   refine A6a ?_
   refine rAr (Ar.len (Eb A1n (Cx.Under.gl U) M2) (Eg A3o (Cx.Under.gl U) M0) (Ln.byt (by decide))) fun _ => ?_
   refine A7e ?_
   refine AllA.mk fun _ => ?_
   refine A6G M0 (PySem.IsPart.int _ _) PySem.IsPart.none (by decide) (fun _ => ?_) rfl (by intro _; with_unfolding_all rfl)
   refine A0m (En M3) ?_
   refine A0d ?_
   refine A0q (by fail "c3") fun _ => ?_
   refine A0d ?_
   refine A0y U4 (by decide) ?_
   refine A1B ?_
   refine A0a ?_
   refine A0n ?_
   dsimp only
   rename_i _ _ t3 T
   dsimp only [List.nil_append]
   rw [show KBy.picked #[100, 107] (some ((#[100] : Array UInt8).size : Int)) none = #[107] from by kernel_rfl]
   refine' ⟨_, ?hs, .inr ⟨rfl, _, _, T, t3, rfl, rfl⟩⟩
   case hs => (refine' Sub.cons ?se ?ss; (case se => exact E2); (case ss => (refine' Sub.cons ?se ?ss; (case se => exact E2); (case ss => (refine' Sub.cons ?se ?ss; (case se => exact E0); (case ss => (refine' Sub.cons ?se ?ss; (case se => exact E1); (case ss => exact Sub.skip Sub.refl))))))))
  ·cases hv
 case done =>
  rintro vs' L (⟨h0, _⟩ | ⟨_, o1, o2, T, t3, rfl, rfl⟩)
  ·cases h0
  refine A3h (En M1) ?_
  refine ⟨_, ?hs, q fD T t3 t2 ((D, .list [.ref r]) :: (T, .tup [.bytes #[107] t3, .bytes val.toArray t2]) :: R') g.cons.cons (.tail _ (.head _))⟩
  refine Sub.of_perm (g := []) ?_
  rw [List.append_nil]
  refine List.Perm.trans (List.Perm.cons _ (List.Perm.swap _ _ _)) (List.Perm.trans (List.Perm.swap _ _ _) (List.Perm.cons _ ?_))
  exact List.Perm.trans (List.Perm.cons _ List.perm_middle.symm) List.perm_middle.symm
end
end Mine
namespace Mine
noncomputable def itB (b : Array UInt8) (t : Tok) (i : Nat) : LObj := .fob "bytes_iterator" #[.bytes b t, .int i 0]
theorem A9c (Γ : Cx) (b : Array UInt8) (t : Tok) : Walk Γ (fun _ => True) (itB b t) b.size (fun i v => ∃ c u, b[i]? = some c ∧ v = .int (c.toNat : Int) u) := by
 refine ⟨fun i hi vs led it hm Q q => Run.leaf fun h tk S => ?_, fun i vs led it hm Q q => Run.leaf fun h tk S => ?_, fun led p hm => trivial, fun vs led it hm Q q => Run.leaf fun h tk S => ?_⟩
 ·obtain ⟨o, ho, ho', _⟩ := S.get (a := it) (lo := itB b t i) (.head _)
  have hx : b[i]? = some b[i] := by simp [hi]
  refine KBw.next_item (s := Γ.at h tk) (i := i) ⟨_, ho, ho'.1, ho'.2⟩ hx fun h' hit hs => ?_
  obtain ⟨o', ho', hc, hd⟩ := hit
  have U : Upd1 it (itB b t i) (itB b t (i + 1)) ((it, itB b t i) :: led) ((it, itB b t (i + 1)) :: led) := .head
  exact Post.mk (tk := tk + 1) (S.upd U hs ho' ⟨hc, hd⟩) (q _ ⟨_, _, hx, rfl⟩)
 ·obtain ⟨o, ho, ho', _⟩ := S.get (a := it) (lo := itB b t i) (.head _)
  exact KBw.pyIter_self (s := Γ.at h tk) (i := i) ⟨_, ho, ho'.1, ho'.2⟩ (Post.mk S q)
 ·obtain ⟨o, ho, ho', _⟩ := S.get (a := it) (lo := itB b t b.size) (.head _)
  exact KBw.next_end (s := Γ.at h tk) (i := b.size) rfl ⟨_, ho, ho'.1, ho'.2⟩ (by simp) fun h' e => Post.mk (tk := tk) (S.ext e) q
section
variable {Γ : Cx} {vs : A0e} {led : Led} {k : List (List Stmt)} {rest : List Stmt}
theorem B1J {b : Array UInt8} {t : Tok} {Q : Value → A0e → Led → Prop} (q : ∀ a, Q (.ref a) vs ((a, itB b t 0) :: led)) : Run Γ vs led (pyIter (.bytes b t)) Q := Run.leaf fun h tk S =>
 KBw.pyIter_bytes (s := Γ.at h tk) (Post.mk (tk := tk) (S.alloc (lo := itB b t 0) ⟨rfl, rfl⟩ rfl) (q _))
theorem B1k {Q : Flow → A0e → Led → Prop} {target iter : Expr} {body : List Stmt} {pos : Pos}
  (H : Run Γ vs led (eval iter Γ.env) fun w vs' led' => Stop (∃ b t, ∃ J : Nat → A0e → Led → Prop, w = .bytes b t ∧ J 0 vs' led' ∧
   (∀ i c u vs L a, b[i]? = some c → J i vs L → Run Γ vs ((a, itB b t (i + 1)) :: L) (assign target Γ.env (.int (c.toNat : Int) u)) fun _ vs led => Do Γ vs led [body] fun f vs led => match f with
     | .next | .cont => ∃ led₁, Sub ((a, itB b t (i + 1)) :: led₁) led ∧ J (i + 1) vs led₁
     | .brk => Do Γ vs led (rest :: k) Q
     | .ret v => Q (.ret v) vs led) ∧
   (∀ vs L, J b.size vs L → Do Γ vs L (rest :: k) Q)))
  (hs : ∀ x, foldedSetIterable iter Γ.env x = pure x) (ht : ∀ it v, letOwnedTupleGo target it v = pure ()) : Do Γ vs led ((.For target iter body [] pos :: rest) :: k) Q := by
 refine B2f (H.mono fun w vs' led' zz => ?_) hs ht
 obtain ⟨b, t, J, e, j, turn, done⟩ := zz
 subst e
 exact ⟨_, _, _, _, A9c _ b t, B1J fun a => ⟨a, led', J, rfl, .refl, j, fun _ _ _ _ => trivial, fun i v vs L _ ⟨c, u, hc, e⟩ j => e ▸ turn i c u vs L a hc j, done⟩⟩
end
section
variable {Γ : Cx} {vs : A0e} {led R C : Led} {Q : Value → A0e → Led → Prop} {k : Nat} {w : World}
theorem B9M {t : Tok} (hd : Low Γ k) (hk : k ≤ 570) (q : ∀ t, Q (.int 9 t) vs led) : Run Γ vs led (call (.ref 926) [.bytes sk.toArray t]) Q := by
 refine eF B5I B6U rfl hd hk [("key", some (.bytes sk.toArray t)), ("client", none), ("octet", none)] ["len", "SESSION_HEAD"] fun Γ' U hdp hwp => ?_
 refine xAs rfl ?_
 refine rAr Ar.con fun _ => ?_
 refine kAs V1 ?_
 refine B1k ?H (by intro _; rfl) (by intro _ _; rfl)
 refine B1u (En M0) ?_
 refine A7g ?_
 refine A6a ?_
 refine rAr (Ar.len (Eb A1n (Cx.Under.gl U) M0) (Eg A3d (Cx.Under.gl U) M1) (Ln.byt (by decide))) fun _ => ?_
 refine A7e ?_
 refine AllA.mk fun _ => ?_
 refine A6G M0 (PySem.IsPart.int _ _) PySem.IsPart.none (by decide) (fun _ => ?_) rfl (by intro _; with_unfolding_all rfl)
 rw [show KBy.picked (List.toArray sk) (some ((#[115] : Array UInt8).size : Int)) none = #[0, 0, 0, 0, 0, 0, 0, 9] from by kernel_rfl]
 rename_i t2 t3 a0 t4
 refine Stop.mk ⟨_, _, fun i vs' L => ∃ o c t4 sl, vs' = [(.ofString "key", some (.bytes sk.toArray t)), (.ofString "client", some (.int c t4)), (.ofString "octet", o)] ∧ L = (a0, .raw sl) :: led ∧ (i ≤ 7 → c = 0) ∧ (i = 8 → c = 9), rfl, ⟨_, _, _, _, rfl, rfl, fun _ => rfl, fun h => by cases h⟩, ?turn, ?done⟩
 case turn =>
  rintro i c u vs' L a hc ⟨o, n, t4, sl, rfl, rfl, h7, h8⟩
  have hi : i < 8 := by
   have := (Array.getElem?_eq_some_iff.mp hc).1
   simpa using this
  have hn := h7 (by omega)
  subst hn
  refine A0b V2 ?_
  refine xAs rfl ?_
  refine rAr (Ar.bin (Ar.bin (Ar.val (En M1)) Ar.con (Bo.shl (by decide) (by decide) (by decide))) (Ar.val (En M2)) Bo.or) fun _ => ?_
  refine kAs V1 ?_
  refine A0a ?_
  refine A0n ?_
  dsimp only
  refine' ⟨_, ?hs, _, _, _, _, rfl, rfl, ?a, ?b⟩
  case hs => exact Sub.refl
  case a =>
   intro h
   have h' : i = 0 ∨ i = 1 ∨ i = 2 ∨ i = 3 ∨ i = 4 ∨ i = 5 ∨ i = 6 := by omega
   rcases h' with rfl | rfl | rfl | rfl | rfl | rfl | rfl <;> (cases hc; rfl)
  case b =>
   intro h
   have : i = 7 := by omega
   subst this
   cases hc
   rfl
 case done =>
  rintro vs' L ⟨o, n, t4, sl, rfl, rfl, h7, h8⟩
  have hn := h8 rfl
  subst hn
  refine A3h (En M1) ?_
  fail "k"
  exact A2a (by exact Sub.skip Sub.refl) (q _)
end
end Mine
namespace Mine
section
variable {Γ : Cx} {vs : A0e} {led R C : Led} {Q : Value → A0e → Led → Prop} {k : Nat} {w : World}
theorem B3w {m md s sd nw ba : Addr} {ap tm du kp la : Value} {tc : Tok} {kvs : List (By × Value)} {tab : Tab} {n : Int} {rep : By} (hd : Low Γ k) (hk : k ≤ 550) (hw : Γ.w = w) (hC : Cut C R led) (hm : (m, .inst 1055 md) ∈ led) (hmf : (md, A5z s ap tm du tc) ∈ led) (hs : (s, .inst 1132 sd) ∈ led) (hsf : (sd, A4o nw ba kp la) ∈ led) (hnw : (nw, .bdict w kvs) ∈ led) (lo : Ok nw) (hkv : KvIs kvs tab) (hz : tab.length < 64)
  (hf : (tab.map (·.1)).filter (inr [115] [116]) = [sk]) (hg : get tab sk = some (enc n rep)) (h0 : 0 ≤ n) (h1 : n < 128) (h2 : rep.length < 100)
  (q : ∀ D r t1 t2 t3 R', Grow R R' → (r, .tup [.int 9 t1, .int n t2, .bool true, .bytes rep.toArray t3]) ∈ R' → Q (.ref D) vs ((D, .list [.ref r]) :: (C ++ R'))) : Run Γ vs led (call (.ref 1045) [.ref m]) Q := by
 have hg' : get tab sk = some (n.toNat.toUInt8 :: 1 :: rep.length.toUInt8 :: rep) := hg
 have e1 : (n.toNat.toUInt8.toNat : Int) = n := A8C h0 (by omega)
 have e2 : rep.length.toUInt8.toNat = rep.length := by simp; omega
 have e3 : n.toNat.toUInt8.toNat < 128 := by omega
 have e4 : rep.length < 128 := by omega
 refine eF B3Y B4v rfl hd hk [("self", some (.ref m)), ("found", none), ("place", none), ("data", none), ("last", none), ("is_open", none), ("reply", none)] ["SESSION_HEAD", "SESSION_END", "decode_session", "client_of"] fun Γ' U hdp hwp => ?_
 have hwq := U.w.trans hw
 refine xAs rfl ?_
 refine A3r Evs.nil ?_
 refine A0o (by decide) fun _ => ?_
 refine kAs V1 ?_
 rename_i fD
 refine A5m ?H (by intro _; rfl)
 refine rM (Ea M0 (N1 hm) (N1 hmf) M0 A0i rfl) (Gm.inst (N1 hs) (N1 hsf) A2J rfl) (Evs.cons (Eg A3d (Cx.Under.gl U) M0) (Evs.cons (Eg A6i (Cx.Under.gl U) M1) (Evs.cons Eo Evs.nil))) rfl ?_
 refine B0O hdp (up1 hk rfl) hwq (Cut.cons hC) (N1 hs) (N1 hsf) (N1 hnw) lo hkv hz fun _ _ _ _ _ _ _ => ?_
 dsimp only [List.cons_append, List.nil_append]
 rename_i D fv ks R' g kv hp
 obtain ⟨r, t1, t2, e, hr⟩ := kv.one_of hp hf hg'
 subst e
 have hr' : (r, LObj.tup [.bytes sk.toArray t1, .bytes (n.toNat.toUInt8 :: 1 :: rep.length.toUInt8 :: rep).toArray t2]) ∈ C ++ R' := List.mem_append_right _ hr
 refine Stop.mk ⟨D, [.ref r], fun i vs' L => (i = 0 ∧ vs' = [(.ofString "self", some (.ref m)), (.ofString "found", some (.ref fD)), (.ofString "place", none), (.ofString "data", none), (.ofString "last", none), (.ofString "is_open", none), (.ofString "reply", none)] ∧ L = (D, .list [.ref r]) :: (fD, .list []) :: (C ++ R')) ∨
  (i = 1 ∧ ∃ o1 o2 o3 o4 o5 T t3 t4 t5, vs' = [(.ofString "self", some (.ref m)), (.ofString "found", some (.ref fD)), (.ofString "place", o1), (.ofString "data", o2), (.ofString "last", o3), (.ofString "is_open", o4), (.ofString "reply", o5)] ∧ L = (D, .list [.ref r]) :: (T, .tup [.int 9 t3, .int n t4, .bool true, .bytes rep.toArray t5]) :: (fD, .list [.ref T]) :: (C ++ R')), rfl, by exact M0, .inl ⟨rfl, rfl, rfl⟩, ?hJ, ?turn, ?done⟩
 case hJ =>
  rintro i vs' L (⟨rfl, rfl, rfl⟩ | ⟨rfl, o1, o2, o3, o4, o5, T, t3, t4, t5, rfl, rfl⟩)
  ·exact M0
  ·exact M0
 case turn =>
  rintro i v vs' L a hv (⟨rfl, rfl, rfl⟩ | ⟨rfl, _⟩)
  ·cases hv
   refine ⟨r, rfl, ?_⟩
   refine A1O (N3 hr') rfl rfl ?_
   refine A0Y ?_
   refine A0b V2 ?_
   refine A0Y ?_
   refine A0b V3 ?_
   refine A4X ?_
   refine B1m rfl rfl ?_
   refine rC (Eg A3z (Cx.Under.gl U) M2) (Callee.fn B2K) (Evs.cons (En M3) Evs.nil) ?_
   refine B7F hdp (up1 hk rfl) e3 e4 e2 fun _ _ _ => ?_
   refine A1O M0 rfl rfl ?_
   refine A0Y ?_
   refine A0b V4 ?_
   refine A0Y ?_
   refine A0b V5 ?_
   refine A0Y ?_
   refine A0b V6 ?_
   refine A4X ?_
   refine A1A rfl ?_
   refine rM' (En M1) (Gm.app M3) rfl rfl rfl ?_
   refine A0A rfl ?_
   refine A6s ?_
   refine A0A rfl ?_
   refine rC (Eg A7y (Cx.Under.gl U) M3) (Callee.fn B6y) (Evs.cons (En M2) Evs.nil) ?_
   refine B9M hdp (up1 hk rfl) fun _ => ?_
   refine A0m (En M4) ?_
   refine A0m (En M5) ?_
   refine A0m (En M6) ?_
   refine A0d ?_
   refine A0q (by fail "c3") fun _ => ?_
   refine A0d ?_
   refine A0y U4 (by decide) ?_
   refine A1B ?_
   refine A0a ?_
   refine A0n ?_
   dsimp only
   rename_i p t8 t9 t10 T
   dsimp only [List.nil_append]
   rw [e1]
   refine' ⟨_, ?hs, .inr ⟨rfl, _, _, _, _, _, T, t10, t8, t9, rfl, rfl⟩⟩
   case hs => (refine' Sub.cons ?se ?ss; (case se => exact E2); (case ss => (refine' Sub.cons ?se ?ss; (case se => exact E2); (case ss => (refine' Sub.cons ?se ?ss; (case se => exact E0); (case ss => (refine' Sub.cons ?se ?ss; (case se => exact E1); (case ss => exact Sub.skip Sub.refl))))))))
  ·cases hv
 case done =>
  rintro vs' L (⟨h0, _⟩ | ⟨_, o1, o2, o3, o4, o5, T, t3, t4, t5, rfl, rfl⟩)
  ·cases h0
  refine A3h (En M1) ?_
  refine ⟨_, ?hs, q fD T t3 t4 t5 ((D, .list [.ref r]) :: (T, .tup [.int 9 t3, .int n t4, .bool true, .bytes rep.toArray t5]) :: R') g.cons.cons (.tail _ (.head _))⟩
  refine Sub.of_perm (g := []) ?_
  rw [List.append_nil]
  refine List.Perm.trans (List.Perm.cons _ (List.Perm.swap _ _ _)) (List.Perm.trans (List.Perm.swap _ _ _) (List.Perm.cons _ ?_))
  exact List.Perm.trans (List.Perm.cons _ List.perm_middle.symm) List.perm_middle.symm
end
end Mine
namespace Mine
section
variable {Γ : Cx} {vs : A0e} {led R C : Led} {Q : Value → A0e → Led → Prop} {k : Nat} {w : World}
theorem B4I {m md s sd nw ba : Addr} {ap tm : Int} {du kp la : Value} {tc ta tt : Tok} {kvs : List (By × Value)} {tab : Tab} {n : Int} {rep : By} (hd : Low Γ k) (hk : k ≤ 540) (hw : Γ.w = w) (hm : (m, .inst 1055 md) ∈ led) (hmf : (md, A5z s (.int ap ta) (.int tm tt) du tc) ∈ led) (hs : (s, .inst 1132 sd) ∈ led) (hsf : (sd, A4o nw ba kp la) ∈ led) (hnw : (nw, .bdict w kvs) ∈ led) (lo : Ok nw) (hkv : KvIs kvs tab) (hz : tab.length < 64)
  (hf0 : (tab.map (·.1)).filter (inr [100] [101]) = []) (hf : (tab.map (·.1)).filter (inr [115] [116]) = [sk]) (hg : get tab sk = some (enc n rep)) (h0 : 0 ≤ n) (h1 : n < 128) (h2 : rep.length < 100)
  (q : ∀ p T1 T2 r t1 t2 t3 R', Grow led R' → (T1, .tup []) ∈ R' → (T2, .tup [.ref r]) ∈ R' → (r, .tup [.int 9 t1, .int n t2, .bool true, .bytes rep.toArray t3]) ∈ R' →
   Q (.ref p) vs ((p, .tup [.int ap ta, .int tm tt, .bytes #[] tc, .ref T1, .ref T2]) :: R')) : Run Γ vs led (call (.ref 1052) [.ref m]) Q := by
 refine eF B0d B0F rfl hd hk [("self", some (.ref m))] ["tuple"] fun Γ' U hdp hwp => ?_
 have hwq := U.w.trans hw
 refine A1U ?_
 refine A6s ?_
 refine A0m (Ea M0 hm hmf M1 A1u rfl) ?_
 refine A0m (Ea M0 hm hmf M2 A2g rfl) ?_
 refine A0m (Ea M0 hm hmf M3 A1b rfl) ?_
 refine A0A rfl ?_
 refine rC' (Eb A4h (Cx.Under.gl U) M0) Callee.ty rfl rfl ?_
 refine A0A rfl ?_
 refine rM (En M0) (Gm.inst hm hmf A3R rfl) Evs.nil rfl ?_
 refine B4K hdp (up1 hk rfl) hwq Cut.nil hm hmf hs hsf hnw lo hkv hz hf0 fun _ _ _ => ?_
 refine A0d ?_
 refine A1V M0 (by decide) fun _ => ?_
 refine A0A rfl ?_
 refine rC' (Eb A4h (Cx.Under.gl U) M0) Callee.ty rfl rfl ?_
 refine A0A rfl ?_
 refine rM (En M0) (Gm.inst (N2 (Grow.mem (by assumption) hm)) (N2 (Grow.mem (by assumption) hmf)) A3b rfl) Evs.nil rfl ?_
 refine B3w hdp (up1 hk rfl) hwq (Cut.cons (Cut.cons Cut.nil)) (N2 (Grow.mem (by assumption) hm)) (N2 (Grow.mem (by assumption) hmf)) (N2 (Grow.mem (by assumption) hs)) (N2 (Grow.mem (by assumption) hsf)) (N2 (Grow.mem (by assumption) hnw)) lo hkv hz hf hg h0 h1 h2 fun _ _ _ _ _ _ _ _ => ?_
 refine A0d ?_
 refine A1V M0 (by fail "c1") fun _ => ?_
 refine A0d ?_
 refine A0q (by fail "c3") fun _ => ?_
 refine' ⟨_, Sub.refl, q _ _ _ _ _ _ _ _ ?g ?a ?b ?c⟩
 case g => exact Grow.cons (Grow.cons (Grow.cons (Grow.cons (Grow.trans (by assumption) (by assumption)))))
 case a => exact M2
 case b => exact M0
 case c => exact N4 (by assumption)
theorem B4H {m md s sd nw ba : Addr} {ap tm : Int} {du kp la : Value} {tc ta tt : Tok} {kvs : List (By × Value)} {tab : Tab} {n : Int} {rep val : By} (hd : Low Γ k) (hk : k ≤ 540) (hw : Γ.w = w) (hm : (m, .inst 1055 md) ∈ led) (hmf : (md, A5z s (.int ap ta) (.int tm tt) du tc) ∈ led) (hs : (s, .inst 1132 sd) ∈ led) (hsf : (sd, A4o nw ba kp la) ∈ led) (hnw : (nw, .bdict w kvs) ∈ led) (lo : Ok nw) (hkv : KvIs kvs tab) (hz : tab.length < 64)
  (hf0 : (tab.map (·.1)).filter (inr [100] [101]) = [dk]) (hg0 : get tab dk = some val) (hf : (tab.map (·.1)).filter (inr [115] [116]) = [sk]) (hg : get tab sk = some (enc n rep)) (h0 : 0 ≤ n) (h1 : n < 128) (h2 : rep.length < 100)
  (q : ∀ p T1 T2 r t1 t2 t3 r' t4 t5 R', Grow led R' → (T1, .tup [.ref r']) ∈ R' → (r', .tup [.bytes #[107] t4, .bytes val.toArray t5]) ∈ R' → (T2, .tup [.ref r]) ∈ R' → (r, .tup [.int 9 t1, .int n t2, .bool true, .bytes rep.toArray t3]) ∈ R' →
   Q (.ref p) vs ((p, .tup [.int ap ta, .int tm tt, .bytes #[] tc, .ref T1, .ref T2]) :: R')) : Run Γ vs led (call (.ref 1052) [.ref m]) Q := by
 refine eF B0d B0F rfl hd hk [("self", some (.ref m))] ["tuple"] fun Γ' U hdp hwp => ?_
 have hwq := U.w.trans hw
 refine A1U ?_
 refine A6s ?_
 refine A0m (Ea M0 hm hmf M1 A1u rfl) ?_
 refine A0m (Ea M0 hm hmf M2 A2g rfl) ?_
 refine A0m (Ea M0 hm hmf M3 A1b rfl) ?_
 refine A0A rfl ?_
 refine rC' (Eb A4h (Cx.Under.gl U) M0) Callee.ty rfl rfl ?_
 refine A0A rfl ?_
 refine rM (En M0) (Gm.inst hm hmf A3R rfl) Evs.nil rfl ?_
 refine B4J hdp (up1 hk rfl) hwq Cut.nil hm hmf hs hsf hnw lo hkv hz hf0 hg0 fun _ _ _ _ _ _ _ => ?_
 refine A0d ?_
 refine A1V M0 (by fail "c1") fun _ => ?_
 refine A0A rfl ?_
 refine rC' (Eb A4h (Cx.Under.gl U) M0) Callee.ty rfl rfl ?_
 refine A0A rfl ?_
 refine rM (En M0) (Gm.inst (N2 (Grow.mem (by assumption) hm)) (N2 (Grow.mem (by assumption) hmf)) A3b rfl) Evs.nil rfl ?_
 refine B3w hdp (up1 hk rfl) hwq (Cut.cons (Cut.cons Cut.nil)) (N2 (Grow.mem (by assumption) hm)) (N2 (Grow.mem (by assumption) hmf)) (N2 (Grow.mem (by assumption) hs)) (N2 (Grow.mem (by assumption) hsf)) (N2 (Grow.mem (by assumption) hnw)) lo hkv hz hf hg h0 h1 h2 fun _ _ _ _ _ _ _ _ => ?_
 refine A0d ?_
 refine A1V M0 (by fail "c1") fun _ => ?_
 refine A0d ?_
 refine A0q (by fail "c3") fun _ => ?_
 refine' ⟨_, Sub.refl, q _ _ _ _ _ _ _ _ _ _ _ ?g ?a ?a2 ?b ?c⟩
 case g => exact Grow.cons (Grow.cons (Grow.cons (Grow.cons (Grow.trans (by assumption) (by assumption)))))
 case a => exact M2
 case a2 => exact N4 (Grow.mem (by assumption) (by assumption))
 case b => exact M0
 case c => exact N4 (by assumption)
end
end Mine
namespace Mine
section
variable {Γ : Cx} {vs : A0e} {led R C : Led} {Q : Value → A0e → Led → Prop} {k : Nat}
theorem B3u {n nd fa ly la cu : Addr} {sn lo : Int} {ts tl tn tb : Tok} {lv av cv fv : List Value} {fs : List Int} {rows late : List Row} {cuts : List (Int × Int)} {num : Int} {data : By} {X : Led} (hd : Low Γ k) (hk : k ≤ 530)
  (P : Pick [(nd, A3P fa ly la (.int sn ts) (.int lo tl) cu), (ly, .list lv), (la, .list av), (cu, .list cv)] led R) (hC : Cut C X R) (hn : (n, .inst 747 nd) ∈ R) (hfa : (fa, .list fv) ∈ R) (Pc : Pairs R cv cuts)
  (hl : RowsIn X lv rows) (ha : RowsIn X av late) (hi : IntsAre fv fs) (hfz : fv.length ≤ 100) (hz : lv.length ≤ 900) (hz2 : av.length ≤ 900)
  (q : ∀ R' lv' av' la' rows' late' lo' ts' tl', Grow X R' → RowsIn R' lv' rows' → RowsIn R' av' late' → Sent rows late rows' late' (.req num data) cuts fv lo lo' →
   Q .none vs ((nd, A3P fa ly la' (.int (sn + 1) ts') (.int lo' tl') cu) :: (ly, .list lv') :: (la', .list av') :: (cu, .list cv) :: (C ++ R'))) : Run Γ vs led (call (.ref 1164) [.ref n, .int num tn, .bytes data.toArray tb]) Q := by
 refine Run.pick4 P ?_
 obtain rfl := hC.eq
 refine eF B3Q B4n rfl hd hk [("net", some (.ref n)), ("number", some (.int num tn)), ("data", some (.bytes data.toArray tb)), ("message", none)] ["Message", "Entry"] fun Γ' U hdp hwp => ?_
 refine xAs rfl ?_
 refine rC' (Eg A4g (Cx.Under.gl U) M0) (Callee.fn (Cls.keeps A0S)) rfl rfl ?_
 refine A0k Ar.con fun _ => ?_
 refine A0k Ar.con fun _ => ?_
 refine A0k Ar.con fun _ => ?_
 refine A0k Ar.con fun _ => ?_
 refine A0d ?_
 refine B1T hdp (up1 hk rfl) fun _ _ _ _ _ _ _ _ => ?_
 refine kAs V3 ?_
 refine A1x (En M1) rfl ?_
 refine A4A (En M3) M2 U1 F5 A0l A0Q ?_
 refine A4n rfl ?_
 refine A8D ?_
 refine A0A rfl ?_
 refine rC' (Eg A6U (Cx.Under.gl U) M1) (Callee.fn (Cls.keeps A3q)) rfl rfl ?_
 refine A0k Ar.con fun _ => ?_
 refine A0m (En M1) ?_
 refine A0k Ar.con fun _ => ?_
 refine A0m (En M2) ?_
 refine A0d ?_
 refine B4y hdp (up1 hk rfl) fun _ _ => ?_
 refine A0d ?_
 refine A0o (by fail "c3") fun _ => ?_
 refine A4A (En M3) M5 U4 F6 A0X A0Q ?_
 refine A1A rfl ?_
 refine rM (En M0) (Gm.inst (N10 hn) M6 A5G rfl) (Evs.cons (En M3) Evs.nil) rfl ?_
 refine' B7S (M := .req num data) (cuts := cuts) (rows := rows) (late := late) ?d ?k ?P ?hC ?hn ?hfa ?Pc ?hl ?ha ?hm hi hfz hz hz2 ?_
 case P => exact Pick.cons E6 (Pick.cons E6 (Pick.cons E6 (Pick.cons E6 Pick.nil)))
 case hC => exact Cut.cons (Cut.cons (Cut.cons (Cut.cons (Cut.cons (Cut.cons hC)))))
 case d => exact hdp
 case k => omega
 case hn => exact N6 hn
 case hfa => exact N6 hfa
 case Pc => exact Pairs.grow (by exact Grow.cons (Grow.cons (Grow.cons (Grow.cons (Grow.cons (Grow.cons Grow.refl)))))) Pc
 case hl => exact hl
 case ha => exact ha
 case hm =>
  refine' ReqIn.mk ?a ?b ?c ?d ?e
  case a => exact M5
  case b => exact M4
  case c => exact M0
  case d => exact M2
  case e => exact M1
 intro R' lv' av' la' rows' late' lo' ts' tl' g h1 h2 h3
 simp only [List.cons_append, List.nil_append]
 refine A1B ?_
 refine A0a ?_
 refine A0n ?_
 refine' ⟨_, ?hs, q R' lv' av' la' rows' late' lo' ts' tl' g h1 h2 h3⟩
 case hs => (refine' Sub.cons ?se ?ss; (case se => exact E0); (case ss => (refine' Sub.cons ?se ?ss; (case se => exact E0); (case ss => (refine' Sub.cons ?se ?ss; (case se => exact E0); (case ss => (refine' Sub.cons ?se ?ss; (case se => exact E0); (case ss => exact Sub.skip (Sub.skip (Sub.skip (Sub.skip (Sub.skip (Sub.skip Sub.refl)))))))))))))
end
end Mine
namespace Mine
section
variable {Γ : Cx} {vs : A0e} {led R C : Led} {Q : Value → A0e → Led → Prop} {k : Nat} {w : World}
theorem B4B {n m nl wl sl se : Addr} (hd : Low Γ k) (hk : k ≤ 490) (q : Q (.bool true) vs led) : Run Γ vs led (call (.ref 1171) [.ref n, .ref m, .none, .ref nl, .ref wl, .ref sl, .ref se]) Q := by
 refine eF A5L A5V rfl hd hk [("net", some (.ref n)), ("machine", some (.ref m)), ("message", some (.none)), ("numbers", some (.ref nl)), ("wants", some (.ref wl)), ("states", some (.ref sl)), ("seat", some (.ref se)), ("i", none), ("reply", none), ("answer", none), ("right", none)] ["max", "Entry", "Message"] fun Γ' U hdp hwp => ?_
 refine xIf ?_
 refine A1K (En M2) Eo rfl Cm.isNN ?_
 refine A2s rfl ?_
 refine A3h Et ?_
 fail "k"
 exact A2a (by exact Sub.refl) (q)
theorem B4D {n m nl wl sl se msg : Addr} {nv wv : List Value} {ns : List Int} {num p : Int} {tp tw : Tok} {hv cv : Value} {ctx : By} (hd : Low Γ k) (hk : k ≤ 490) (P : Pick [(se, .list [.int p tp, hv, cv])] led R)
  (hnl : (nl, .list nv) ∈ R) (hi : IntsAre nv ns) (hlay : PyData.layable0 (.list (ns.map .int)) = true) (hin : num ∈ ns) (hidx : (ns.idxOf num : Int) = p) (hwl : (wl, .list wv) ∈ R) (hwv : wv[p.toNat]? = some (.bytes ctx.toArray tw)) (hm : AnsIn R msg num ctx) (hp : p < 1000)
  (q : ∀ t, Q (.bool true) vs ((se, .list [.int (p + 1) t, hv, cv]) :: R)) : Run Γ vs led (call (.ref 1171) [.ref n, .ref m, .ref msg, .ref nl, .ref wl, .ref sl, .ref se]) Q := by
 obtain ⟨md, el, t1, t2, t3, t4, t5, t6, t7, t8, t9, hm1, hm2, hm3⟩ := hm
 subst hidx
 have hp0 : (0 : Int) ≤ (ns.idxOf num : Int) := by omega
 refine Run.pick1 P ?_
 refine eF A5L A5V rfl hd hk [("net", some (.ref n)), ("machine", some (.ref m)), ("message", some (.ref msg)), ("numbers", some (.ref nl)), ("wants", some (.ref wl)), ("states", some (.ref sl)), ("seat", some (.ref se)), ("i", none), ("reply", none), ("answer", none), ("right", none)] ["max", "Entry", "Message"] fun Γ' U hdp hwp => ?_
 refine xIf ?_
 refine A1K (En M2) Eo rfl (Cm.isN (fun e => Value.noConfusion e)) ?_
 refine A0R rfl ?_
 refine A0a ?_
 refine xIf ?_
 refine A4I (Ea M2 (N1 hm1) (N1 hm2) M5 A0l rfl) rfl ?_
 refine rE (En M3) ?_
 refine A3I (N1 hnl) hi ?_
 refine A0c ?_
 refine A0R (by fail "c3") ?_
 refine A0a ?_
 refine xAs rfl ?_
 refine rM (En M3) (Gm.idx (N1 hnl)) (Evs.cons (Ea M2 (N1 hm1) (N1 hm2) M5 A0l rfl) Evs.nil) rfl ?_
 refine A6M (N1 hnl) hi hlay hin (fun _ => ?_)
 refine kAs V7 ?_
 refine xIf ?_
 refine A0g (Ar.val (Ea M2 (N1 hm1) (N1 hm2) M1 A0C rfl)) Ar.con rfl Ci.eq ?_
 refine A2s rfl ?_
 refine xIf ?_
 refine A0g (Ar.val (En M7)) (Ar.val (Ei (En M6) Ar.con (It.list M0 (by decide) (by decide) rfl (by intro _; with_unfolding_all rfl)))) rfl Ci.eq ?_
 refine A2s (by simp only [decide_eq_true_eq, decide_eq_false_iff_not, Bool.not_eq_true', Bool.not_eq_false', Bool.not_true, Bool.not_false, not_true_eq_false, not_false_eq_true]) ?_
 refine B5e (by intro _ _ _; rfl) ?_
 refine rE (En M6) ?_
 refine rAr Ar.con (fun _ => ?_)
 refine B2R M0 (by decide) (by decide) rfl ?_
 refine rAr Ar.con (fun _ => ?_)
 refine A4P (fun _ => ?_)
 refine A4L (by decide) (by fail "c1") (by fail "c1") U0 ?_
 refine A1U ?_
 refine A3O (Ea M2 (N1 hm1) (N1 hm2) M11 A0x rfl) (Ei (En M4) (Ar.val (En M7)) (It.list (N1 hwl) hp0 (by omega) hwv (by intro _; with_unfolding_all rfl))) rfl ?_
 refine rCm Cm.eqB ?_
 (try dsimp only [A2b])
 rw [show decide (List.toArray ctx = List.toArray ctx) = true from by simp]
 exact ⟨_, Sub.refl, q _⟩
theorem B4C {n m nl wl sl se msg : Addr} {nv wv : List Value} {ns : List Int} {num p : Int} {tp tw : Tok} {hv cv : Value} {ctx want : By} (hd : Low Γ k) (hk : k ≤ 490) (hse : (se, .list [.int p tp, hv, cv]) ∈ led)
  (hnl : (nl, .list nv) ∈ led) (hi : IntsAre nv ns) (hlay : PyData.layable0 (.list (ns.map .int)) = true) (hin : num ∈ ns) (hidx : (ns.idxOf num : Int) < p) (hwl : (wl, .list wv) ∈ led) (hwv : wv[(ns.idxOf num : Int).toNat]? = some (.bytes want.toArray tw)) (hm : AnsIn led msg num ctx) (hp : p < 1000)
  (hc : ctx = want ∨ ctx = [3, 0])
  (q : Q (.bool true) vs led) : Run Γ vs led (call (.ref 1171) [.ref n, .ref m, .ref msg, .ref nl, .ref wl, .ref sl, .ref se]) Q := by
 obtain ⟨md, el, t1, t2, t3, t4, t5, t6, t7, t8, t9, hm1, hm2, hm3⟩ := hm
 have hp0 : (0 : Int) ≤ (ns.idxOf num : Int) := by omega
 have hne : ¬ (ns.idxOf num : Int) = p := by omega
 by_cases hc1 : ctx.toArray = want.toArray
 ·
  refine eF A5L A5V rfl hd hk [("net", some (.ref n)), ("machine", some (.ref m)), ("message", some (.ref msg)), ("numbers", some (.ref nl)), ("wants", some (.ref wl)), ("states", some (.ref sl)), ("seat", some (.ref se)), ("i", none), ("reply", none), ("answer", none), ("right", none)] ["max", "Entry", "Message"] fun Γ' U hdp hwp => ?_
  refine xIf ?_
  refine A1K (En M2) Eo rfl (Cm.isN (fun e => Value.noConfusion e)) ?_
  refine A0R rfl ?_
  refine A0a ?_
  refine xIf ?_
  refine A4I (Ea M2 hm1 hm2 M5 A0l rfl) rfl ?_
  refine rE (En M3) ?_
  refine A3I hnl hi ?_
  refine A0c ?_
  refine A0R (by fail "c3") ?_
  refine A0a ?_
  refine xAs rfl ?_
  refine rM (En M3) (Gm.idx hnl) (Evs.cons (Ea M2 hm1 hm2 M5 A0l rfl) Evs.nil) rfl ?_
  refine A6M hnl hi hlay hin (fun _ => ?_)
  refine kAs V7 ?_
  refine xIf ?_
  refine A0g (Ar.val (Ea M2 hm1 hm2 M1 A0C rfl)) Ar.con rfl Ci.eq ?_
  refine A2s rfl ?_
  refine xIf ?_
  refine A0g (Ar.val (En M7)) (Ar.val (Ei (En M6) Ar.con (It.list hse (by decide) (by decide) rfl (by intro _; with_unfolding_all rfl)))) rfl Ci.eq ?_
  refine A0R (by fail "c3") ?_
  refine A0a ?_
  refine A1U ?_
  refine A7Z ?_
  refine A3O (En M7) (Ei (En M6) Ar.con (It.list hse (by decide) (by decide) rfl (by intro _; with_unfolding_all rfl))) rfl ?_
  refine rCm Cm.lt ?_
  refine A0c ?_
  refine A3N (by fail "c3") ?_
  refine A4e ?_
  refine R_Or ?_
  refine A3O (Ea M2 hm1 hm2 M11 A0x rfl) (Ei (En M4) (Ar.val (En M7)) (It.list hwl hp0 (by omega) hwv (by intro _; with_unfolding_all rfl))) rfl ?_
  refine rCm Cm.eqB ?_
  refine A0c ?_
  refine C0e (by fail "c3") ?_
  (try dsimp only [A2b])
  rw [decide_eq_true hc1]
  exact ⟨_, Sub.refl, q⟩
 ·have hc2 : ctx.toArray = #[3, 0] := by
   rcases hc with h | h
   ·exact absurd (by rw [h]) hc1
   ·rw [h]
  refine eF A5L A5V rfl hd hk [("net", some (.ref n)), ("machine", some (.ref m)), ("message", some (.ref msg)), ("numbers", some (.ref nl)), ("wants", some (.ref wl)), ("states", some (.ref sl)), ("seat", some (.ref se)), ("i", none), ("reply", none), ("answer", none), ("right", none)] ["max", "Entry", "Message"] fun Γ' U hdp hwp => ?_
  refine xIf ?_
  refine A1K (En M2) Eo rfl (Cm.isN (fun e => Value.noConfusion e)) ?_
  refine A0R rfl ?_
  refine A0a ?_
  refine xIf ?_
  refine A4I (Ea M2 hm1 hm2 M5 A0l rfl) rfl ?_
  refine rE (En M3) ?_
  refine A3I hnl hi ?_
  refine A0c ?_
  refine A0R (by fail "c3") ?_
  refine A0a ?_
  refine xAs rfl ?_
  refine rM (En M3) (Gm.idx hnl) (Evs.cons (Ea M2 hm1 hm2 M5 A0l rfl) Evs.nil) rfl ?_
  refine A6M hnl hi hlay hin (fun _ => ?_)
  refine kAs V7 ?_
  refine xIf ?_
  refine A0g (Ar.val (Ea M2 hm1 hm2 M1 A0C rfl)) Ar.con rfl Ci.eq ?_
  refine A2s rfl ?_
  refine xIf ?_
  refine A0g (Ar.val (En M7)) (Ar.val (Ei (En M6) Ar.con (It.list hse (by decide) (by decide) rfl (by intro _; with_unfolding_all rfl)))) rfl Ci.eq ?_
  refine A0R (by fail "c3") ?_
  refine A0a ?_
  refine A1U ?_
  refine A7Z ?_
  refine A3O (En M7) (Ei (En M6) Ar.con (It.list hse (by decide) (by decide) rfl (by intro _; with_unfolding_all rfl))) rfl ?_
  refine rCm Cm.lt ?_
  refine A0c ?_
  refine A3N (by fail "c3") ?_
  refine A4e ?_
  refine R_Or ?_
  refine A3O (Ea M2 hm1 hm2 M11 A0x rfl) (Ei (En M4) (Ar.val (En M7)) (It.list hwl hp0 (by omega) hwv (by intro _; with_unfolding_all rfl))) rfl ?_
  refine rCm Cm.eqB ?_
  refine A0c ?_
  refine C0f (by fail "c3") ?_
  refine A4e ?_
  refine B3L rfl ?_
  refine rE (Ea M2 hm1 hm2 M11 A0x rfl) ?_
  refine A1I (fun _ => ?_)
  refine rCm Cm.eqB ?_
  (try dsimp only [A2b])
  rw [decide_eq_true hc2]
  exact ⟨_, Sub.refl, q⟩
end
end Mine
namespace Mine
theorem B3K {L X R' : Led} (g : Grow (L ++ X) R') (hk : ((L ++ X).map (·.1)).Nodup) : ∃ R2, R'.Perm (L ++ R2) ∧ Grow X R2 := by
 obtain ⟨h1, h2⟩ := A9U hk
 exact A9P g h1 h2
theorem Run.tail {α : Type} {Γ : Cx} {vs : A0e} {t : Sem α} {Q : α → A0e → Led → Prop} {A L R1 R2 : Led} (hp : R1.Perm (L ++ R2)) (H : Run Γ vs (A ++ (L ++ R2)) t Q) : Run Γ vs (A ++ R1) t Q :=
 Run.sub (Sub.of_perm (g := []) (by rw [List.append_nil]; exact hp.append_left A)) H
theorem Run.tail7 {α : Type} {Γ : Cx} {vs : A0e} {t : Sem α} {Q : α → A0e → Led → Prop} {a b c d e f g : Addr × LObj} {L R1 R2 : Led} (hp : R1.Perm (L ++ R2)) (H : Run Γ vs (a :: b :: c :: d :: e :: f :: g :: (L ++ R2)) t Q) : Run Γ vs (a :: b :: c :: d :: e :: f :: g :: R1) t Q := Run.tail (A := [a, b, c, d, e, f, g]) hp H
section
variable {Γ : Cx} {vs : A0e} {led R C : Led} {Q : Value → A0e → Led → Prop} {k : Nat} {w : World}
theorem B4A {n nd fa ly la cu m md s sd nw ba nl wl sl se msg : Addr} {sn lo p hi0 c lst i : Int} {ts tl tp th tc ta tcq tls tw : Tok} {tm du kp : Value} {lv av cv fv nv wv sv bv : List Value} {fs ns : List Int} {rows late : List Row} {cuts : List (Int × Int)} {num : Int} {cmd : Cmd} {rep : By} {ops : List Op} {kvs : List (By × Value)} {tab : Tab} {X : Led}
  (hd : Low Γ k) (hk : k ≤ 480) (hnd : Γ.nd = true) (hw : Γ.w = w)
  (P : Pick [(nd, A3P fa ly la (.int sn ts) (.int lo tl) cu), (ly, .list lv), (la, .list av), (cu, .list cv), (se, .list [.int p tp, .int hi0 th, .int c tc]), (md, A5z s (.int c ta) tm du tcq), (sd, A4o nw ba kp (.int lst tls)), (nw, .bdict w kvs), (ba, .list bv)] led R) (hC : Cut C X R)
  (hn : (n, .inst 747 nd) ∈ R) (hfa : (fa, .list fv) ∈ R) (Pc : Pairs R cv cuts) (hl : RowsIn X lv rows) (ha : RowsIn X av late) (hfi : IntsAre fv fs) (hfz : fv.length ≤ 100) (hz : lv.length ≤ 900) (hz2 : av.length ≤ 900)
  (hmi : (m, .inst 1055 md) ∈ R) (hs : (s, .inst 1132 sd) ∈ R) (lo' : Ok nw) (hkv : KvIs kvs tab) (hok : cmd.Ok) (hr : DoRes tab cmd rep ops) (hold : ∀ v, get tab dk = some v → v.length < 60) (h0 : 0 ≤ c) (h1 : c + 1 < 128) (hz3 : bv.length ≤ 800) (hz4 : tab.length ≤ 50)
  (hnl : (nl, .list nv) ∈ R) (hi : IntsAre nv ns) (hlay : PyData.layable0 (.list (ns.map .int)) = true) (hin : num ∈ ns) (hidx : (ns.idxOf num : Int) < 1000) (hwl : (wl, .list wv) ∈ R) (hsl : (sl, .list sv) ∈ R) (hm : ReqIn R msg num cmd.data)
  (hhi : hi0 < 1000) (hright : (hi0 ≤ (ns.idxOf num : Int) ∧ ∃ tw, wv[(ns.idxOf num : Int).toNat]? = some (.bytes rep.toArray tw)) ∨ ((ns.idxOf num : Int) < hi0 ∧ rep = [3, 0]))
  (hst : ∃ tst, sv[(max hi0 (ns.idxOf num : Int)).toNat]? = some (obl (get ((ops ++ [Op.put ak [(c + 1).toNat.toUInt8, 1, 0]]).foldl Op.run tab) dk) tst))
  (q : ∀ R' lv' av' la' rows' late' lo2 ts' tl' kvs1 bv1 la1 ta1 tm1 tc1 tl1 th' tcc, Grow X R' → RowsIn R' lv' rows' → RowsIn R' av' late' → Sent rows late rows' late' (.ans num rep) cuts fv lo lo2 → KvIs kvs1 ((ops ++ [Op.put ak [(c + 1).toNat.toUInt8, 1, 0]]).foldl Op.run tab) → bv1.length = bv.length + 1 →
   Q (.bool true) vs ((nd, A3P fa ly la' (.int (sn + 1) ts') (.int lo2 tl') cu) :: (ly, .list lv') :: (la', .list av') :: (cu, .list cv) :: (se, .list [.int p tp, .int (max hi0 (ns.idxOf num : Int)) th', .int (c + 1) tcc]) :: (md, A5z s (.int (c + 1) ta1) (.int 1 tm1) du tc1) :: (sd, A4o nw ba kp (.int la1 tl1)) :: (nw, .bdict w kvs1) :: (ba, .list bv1) :: (C ++ R'))) : Run Γ vs led (call (.ref 1171) [.ref n, .ref m, .ref msg, .ref nl, .ref wl, .ref sl, .ref se]) Q := by
 obtain ⟨md', el, e, ed, t1, t2, t3, t4, t5, t6, t7, t8, t9, u1, u2, u3, u4, hm1, hm2, hm3, hm4, hm5⟩ := hm
 have hp0 : (0 : Int) ≤ (ns.idxOf num : Int) := by omega
 refine Run.sub P.sub ?_
 obtain rfl := hC.eq
 refine Run.nodup fun hnodup => ?_
 simp only [List.cons_append, List.nil_append]
 have hn := ‹(n, LObj.inst 747 nd) ∈ C ++ X›
 have hnC := hnd
 clear hnC
 have hn' := hnd
 refine eF A5L A5V rfl hd hk [("net", some (.ref n)), ("machine", some (.ref m)), ("message", some (.ref msg)), ("numbers", some (.ref nl)), ("wants", some (.ref wl)), ("states", some (.ref sl)), ("seat", some (.ref se)), ("i", none), ("reply", none), ("answer", none), ("right", none)] ["max", "Entry", "Message"] fun Γ' U hdp hwp => ?_
 try (have hnp := U.nd.trans hn)
 try (have hwq := U.w.trans hw)
 have hnp := U.nd.trans hnd
 refine xIf ?_
 refine A1K (En M2) Eo rfl (Cm.isN (fun e => Value.noConfusion e)) ?_
 refine A0R rfl ?_
 refine A0a ?_
 refine xIf ?_
 refine A4I (Ea M2 (N9 hm1) (N9 hm2) M5 A0l rfl) rfl ?_
 refine rE (En M3) ?_
 refine A3I (N9 hnl) hi ?_
 refine A0c ?_
 refine A0R (by fail "c3") ?_
 refine A0a ?_
 refine xAs rfl ?_
 refine rM (En M3) (Gm.idx (N9 hnl)) (Evs.cons (Ea M2 (N9 hm1) (N9 hm2) M5 A0l rfl) Evs.nil) rfl ?_
 refine A6M (N9 hnl) hi hlay hin (fun _ => ?_)
 refine kAs V7 ?_
 refine xIf ?_
 refine A0g (Ar.val (Ea M2 (N9 hm1) (N9 hm2) M1 A0C rfl)) Ar.con rfl Ci.eq ?_
 refine A0R rfl ?_
 refine A0a ?_
 refine xSi rfl ?_
 refine rC (Eb B6I (Cx.Under.gl U) M0) Callee.bi (Evs.cons (Ei (En M6) Ar.con (It.list M4 (by decide) (by decide) rfl (by intro _; with_unfolding_all rfl))) (Evs.cons (En M7) Evs.nil)) ?_
 refine B1B (fun _ => ?_)
 refine rE (En M6) ?_
 refine rAr Ar.con (fun _ => ?_)
 refine A4L (by decide) (by fail "c1") (by fail "c1") U4 ?_
 refine B5e (by intro _ _ _; rfl) ?_
 refine rE (En M6) ?_
 refine rAr Ar.con (fun _ => ?_)
 refine B2R M4 (by decide) (by decide) rfl ?_
 refine rAr Ar.con (fun _ => ?_)
 refine A4P (fun _ => ?_)
 refine A4L (by decide) (by simp) (by simp) U4 ?_
 refine xAs rfl ?_
 refine rM' (En M1) (Gm.inst (N9 hmi) M5 A5u rfl) rfl rfl rfl ?_
 refine A0A rfl ?_
 refine rC' (Eg A6U (Cx.Under.gl U) M1) (Callee.fn (Cls.keeps A3q)) rfl rfl ?_
 refine A0k Ar.con (fun _ => ?_)
 refine A0m (Ei (En M6) Ar.con (It.list M4 (by decide) (by decide) rfl (by intro _; with_unfolding_all rfl))) ?_
 refine A0k Ar.con (fun _ => ?_)
 refine A0m (Eaa (Ei (Ea M2 (N9 hm1) (N9 hm2) M6 A0X rfl) Ar.con (It.list (N9 hm3) (by decide) (by decide) rfl (by intro _; with_unfolding_all rfl))) (N9 hm4) (N9 hm5) M3 A1i rfl rfl) ?_
 refine A0d ?_
 refine B4y hdp (up1 hk rfl) (fun _ _ => ?_)
 refine A0m Eo ?_
 refine A0d ?_
 refine B9K hdp (up1 hk rfl) hnp hwq (Pick.cons E7 (Pick.cons E7 (Pick.cons E7 (Pick.cons E7 Pick.nil)))) (N7 hmi) (N7 hs) M1 M0 lo' hkv hok hr hold rfl (by omega) h1 hz3 hz4 (fun _ _ _ _ _ _ _ _ _ _ _ _ => ?_)
 refine kAs V8 ?_
 refine xAs rfl ?_
 refine rC' (Eg A4g (Cx.Under.gl U) M2) (Callee.fn (Cls.keeps A0S)) rfl rfl ?_
 refine A0k Ar.con (fun _ => ?_)
 refine A0k Ar.con (fun _ => ?_)
 refine A0k Ar.con (fun _ => ?_)
 refine A0k Ar.con (fun _ => ?_)
 refine A0d ?_
 refine B1T hdp (up1 hk rfl) (fun _ _ _ _ _ _ _ _ => ?_)
 refine kAs V9 ?_
 refine A1x (Ea M2 (N7 (Grow.mem (by assumption) (N7 hm1))) (N7 (Grow.mem (by assumption) (N7 hm2))) M5 A0l rfl) rfl ?_
 refine A4A (En M9) M2 U1 F5 A0l A0Q ?_
 refine A1x (En M8) rfl ?_
 refine A4A (En M9) M2 U1 F11 A0x A0Q ?_
 refine A1A rfl ?_
 refine rM (En M0) (Gm.inst (N7 (Grow.mem (by assumption) (N7 hn))) (N7 (Grow.mem (by assumption) M2)) A5G rfl) (Evs.cons (En M9) Evs.nil) rfl ?_
 rename_i b12 a13 b10 b9 b8 a9 b6 b5 x1 xd1 R1 kvs1 bv1 la1 ta1 tm1 tc1 tl1 trep g1 hkv1 hbv1 s3 s2 s1 s0 x xd el1 v1 v2 v3 v4 v5
 obtain ⟨R2, hp, gD⟩ := B3K (L := [(nd, A3P fa ly la (.int sn ts) (.int lo tl) cu), (ly, .list lv), (la, .list av), (cu, .list cv), (se, .list [.int p tp, .int (max hi0 (ns.idxOf num : Int)) a13, .int (c + 1) a9])] ++ C) (X := X) (R' := R1) (by
  intro y h
  apply g1
  simp only [List.cons_append, List.nil_append, List.append_assoc, List.mem_cons] at h ⊢
  exact .inr (.inr h)) (by
  simp only [List.cons_append, List.nil_append, List.append_assoc, List.map_cons, List.map_append, List.nodup_cons, List.mem_cons, not_or] at hnodup ⊢
  simp_all)
 refine Run.tail7 hp ?_
 simp only [List.cons_append, List.nil_append, List.append_assoc]
 refine' B7S (M := .ans num rep) (cuts := cuts) (rows := rows) (late := late) ?d ?k ?P ?hC ?hn ?hfa ?Pc ?hl ?ha ?hm hfi hfz hz hz2 ?_
 case P => exact Pick.cons E7 (Pick.cons E7 (Pick.cons E7 (Pick.cons E7 Pick.nil)))
 case hC => exact Cut.cons (Cut.cons (Cut.cons (Cut.cons (Cut.cons (Cut.cons (Cut.cons (Cut.cons Cut.app)))))))
 case d => exact hdp
 case k => omega
 case hn => exact N8 (Grow.mem (Grow.app gD) hn)
 case hfa => exact N8 (Grow.mem (Grow.app gD) hfa)
 case Pc => exact Pairs.grow (by exact Grow.cons (Grow.cons (Grow.cons (Grow.cons (Grow.cons (Grow.cons (Grow.cons (Grow.cons (Grow.app gD))))))))) Pc
 case hl => exact hl.mono gD
 case ha => exact ha.mono gD
 case hm =>
  refine' AnsIn.mk ?a ?b ?c
  case a => exact M2
  case b => exact M1
  case c => exact M0
 intro R3 lv' av' la' rows' late' lo2 ts' tl' g2 h1' h2' h3'
 refine ⟨trivial, ?_⟩
 simp only [List.cons_append, List.nil_append]
 have gF : Grow X R3 := gD.trans g2
 obtain ⟨tst, hst⟩ := hst
 have hm0 : (0 : Int) ≤ max hi0 (ns.idxOf num : Int) := by omega
 have hm1 : max hi0 (ns.idxOf num : Int) < 1000 := by omega
 rcases hright with ⟨hle, twr, hwr⟩ | ⟨hlt, hrep⟩
 ·have hmx : (ns.idxOf num : Int) = max hi0 (ns.idxOf num : Int) := by omega
  refine xAs rfl ?_
  refine A1I (fun _ => ?_)
  refine kAs V10 ?_
  refine xIf ?_
  refine A0g (Ar.val (En M7)) (Ar.val (Ei (En M6) Ar.con (It.list M11 (by decide) (by decide) rfl (by intro _; with_unfolding_all rfl)))) rfl Ci.eq ?_
  refine A2s (by fail "c3") ?_
  refine A4Y (Ei (En M4) (Ar.val (En M7)) (It.list (N12 (Grow.mem (Grow.app gF) hwl)) hp0 (by omega) hwr (by intro _; with_unfolding_all rfl))) rfl V10 ?_
  refine A0a ?_
  refine A1U ?_
  refine A7Z ?_
  refine A3O (En M8) (En M10) rfl ?_
  refine rCm Cm.eqB ?_
  refine A0c ?_
  refine A3N (by simp only [decide_eq_true_eq, decide_eq_false_iff_not, Bool.not_eq_true', Bool.not_eq_false', Bool.not_true, Bool.not_false, not_true_eq_false, not_false_eq_true]) ?_
  refine A4e ?_
  refine B3L rfl ?_
  refine rM' (En M1) (Gm.inst (N12 (Grow.mem (Grow.app gF) hmi)) M7 A4s rfl) rfl rfl rfl ?_
  refine A0A rfl ?_
  refine A1I (fun _ => ?_)
  refine A0d ?_
  refine B3x hdp (up1 hk rfl) hwq (N12 (Grow.mem (Grow.app gF) hmi)) M7 (N12 (Grow.mem (Grow.app gF) hs)) M8 M9 lo' hkv1 (fun _ => ?_)
  refine rE (Ei (En M5) (Ar.val (Ei (En M6) Ar.con (It.list M11 (by decide) (by decide) rfl (by intro _; with_unfolding_all rfl)))) (It.list (N12 (Grow.mem (Grow.app gF) hsl)) hm0 (by omega) hst (by intro _; with_unfolding_all rfl))) ?_
  refine B7D ?_
  rw [decide_eq_true rfl]
  refine' ⟨_, ?sb, q R3 lv' av' la' rows' late' lo2 ts' tl' kvs1 bv1 la1 ta1 tm1 tc1 tl1 a13 a9 gF h1' h2' h3' hkv1 hbv1⟩
  case sb => (refine' Sub.cons ?se ?ss; (case se => exact E0); (case ss => (refine' Sub.cons ?se ?ss; (case se => exact E0); (case ss => (refine' Sub.cons ?se ?ss; (case se => exact E0); (case ss => (refine' Sub.cons ?se ?ss; (case se => exact E0); (case ss => (refine' Sub.cons ?se ?ss; (case se => exact E7); (case ss => (refine' Sub.cons ?se ?ss; (case se => exact E3); (case ss => (refine' Sub.cons ?se ?ss; (case se => exact E3); (case ss => (refine' Sub.cons ?se ?ss; (case se => exact E3); (case ss => (refine' Sub.cons ?se ?ss; (case se => exact E3); (case ss => exact Sub.skip (Sub.skip (Sub.skip Sub.refl))))))))))))))))))))
 ·have hr3 : rep.toArray = #[3, 0] := by rw [hrep]
  have hmx : ¬ (ns.idxOf num : Int) = max hi0 (ns.idxOf num : Int) := by omega
  refine xAs rfl ?_
  refine A1I (fun _ => ?_)
  refine kAs V10 ?_
  refine xIf ?_
  refine A0g (Ar.val (En M7)) (Ar.val (Ei (En M6) Ar.con (It.list M11 (by decide) (by decide) rfl (by intro _; with_unfolding_all rfl)))) rfl Ci.eq ?_
  refine A0R (by fail "c3") ?_
  refine A0a ?_
  refine A1U ?_
  refine A7Z ?_
  refine A3O (En M8) (En M10) rfl ?_
  refine rCm Cm.eqB ?_
  refine A0c ?_
  refine A3N (by fail "c3") ?_
  refine A4e ?_
  refine B3L rfl ?_
  refine rM' (En M1) (Gm.inst (N12 (Grow.mem (Grow.app gF) hmi)) M7 A4s rfl) rfl rfl rfl ?_
  refine A0A rfl ?_
  refine A1I (fun _ => ?_)
  refine A0d ?_
  refine B3x hdp (up1 hk rfl) hwq (N12 (Grow.mem (Grow.app gF) hmi)) M7 (N12 (Grow.mem (Grow.app gF) hs)) M8 M9 lo' hkv1 (fun _ => ?_)
  refine rE (Ei (En M5) (Ar.val (Ei (En M6) Ar.con (It.list M11 (by decide) (by decide) rfl (by intro _; with_unfolding_all rfl)))) (It.list (N12 (Grow.mem (Grow.app gF) hsl)) hm0 (by omega) hst (by intro _; with_unfolding_all rfl))) ?_
  refine B7D ?_
  rw [decide_eq_true rfl]
  refine' ⟨_, ?sc, q R3 lv' av' la' rows' late' lo2 ts' tl' kvs1 bv1 la1 ta1 tm1 tc1 tl1 a13 a9 gF h1' h2' h3' hkv1 hbv1⟩
  case sc => (refine' Sub.cons ?se ?ss; (case se => exact E0); (case ss => (refine' Sub.cons ?se ?ss; (case se => exact E0); (case ss => (refine' Sub.cons ?se ?ss; (case se => exact E0); (case ss => (refine' Sub.cons ?se ?ss; (case se => exact E0); (case ss => (refine' Sub.cons ?se ?ss; (case se => exact E7); (case ss => (refine' Sub.cons ?se ?ss; (case se => exact E3); (case ss => (refine' Sub.cons ?se ?ss; (case se => exact E3); (case ss => (refine' Sub.cons ?se ?ss; (case se => exact E3); (case ss => (refine' Sub.cons ?se ?ss; (case se => exact E3); (case ss => exact Sub.skip (Sub.skip (Sub.skip Sub.refl))))))))))))))))))))
end
end Mine
namespace Mine
theorem A7H {t : Tab} {f : By × By → By × By} (hf : ∀ p, (f p).1 = p.1) (k : By) : ((t.map f).find? fun p => decide (p.1 = k)) = (t.find? fun p => decide (p.1 = k)).map f := by
 induction t with
 | nil => rfl
 | cons p t ih =>
  simp only [List.map_cons, List.find?_cons, hf]
  split
  ·rfl
  ·exact ih
theorem A2w (t : Tab) (k v j : By) : get (sto t k v) j = if j = k then some v else get t j := by
 unfold sto get
 by_cases ha : t.any (fun p => decide (p.1 = k)) = true
 ·rw [if_pos ha, A7H (fun p => by split <;> rfl)]
  by_cases hj : j = k
  ·subst hj
   rw [if_pos rfl]
   rw [List.any_eq_true] at ha
   obtain ⟨p, hp, hk⟩ := ha
   cases hf : t.find? (fun p => decide (p.1 = j)) with
   | none => exact absurd hk (by simpa using List.find?_eq_none.mp hf p hp)
   | some q =>
    have := List.find?_some hf
    simp only [decide_eq_true_eq] at this
    simp [this]
  ·rw [if_neg hj]
   cases hf : t.find? (fun p => decide (p.1 = j)) with
   | none => rfl
   | some q =>
    have := List.find?_some hf
    simp only [decide_eq_true_eq] at this
    simp [this, hj]
 ·rw [if_neg ha, List.find?_append]
  by_cases hj : j = k
  ·subst hj
   rw [if_pos rfl]
   have : t.find? (fun p => decide (p.1 = j)) = none := by
    rw [List.find?_eq_none]
    intro p hp hk
    exact ha (List.any_eq_true.mpr ⟨p, hp, hk⟩)
   simp [this]
  ·rw [if_neg hj]
   have : ([(k, v)] : Tab).find? (fun p => decide (p.1 = j)) = none := by simp [List.find?_cons, Ne.symm hj]
   simp [this]
theorem B4h (t : Tab) (k j : By) : get (del t k) j = if j = k then none else get t j := by
 unfold del get
 induction t with
 | nil => simp
 | cons p t ih =>
  rw [List.filter_cons]
  by_cases hp : p.1 = k
  ·rw [if_neg (by simpa using hp), ih, List.find?_cons]
   by_cases hj : j = k
   ·simp [hj]
   ·rw [if_neg hj, if_neg hj]
    have : decide (p.1 = j) = false := by simpa using fun e => hj (e.symm.trans hp)
    rw [this]
  ·rw [if_pos (by simpa using hp), List.find?_cons, List.find?_cons]
   by_cases hpj : p.1 = j
   ·have hj : ¬ j = k := fun e => hp (hpj.trans e)
    simp [hpj, hj]
   ·have : decide (p.1 = j) = false := by simpa using hpj
    rw [this]
    exact ih
noncomputable def keys (t : Tab) : List By := t.map (·.1)
theorem A8P (t : Tab) (k v : By) : keys (sto t k v) = if k ∈ keys t then keys t else keys t ++ [k] := by
 unfold sto keys
 by_cases ha : t.any (fun p => decide (p.1 = k)) = true
 ·rw [if_pos ha]
  have : k ∈ t.map (·.1) := by
   rw [List.any_eq_true] at ha
   obtain ⟨p, hp, hk⟩ := ha
   exact List.mem_map.mpr ⟨p, hp, by simpa using hk⟩
  rw [if_pos this, List.map_map]
  apply List.map_congr_left
  intro p _
  simp only [Function.comp_def]
  split <;> rfl
 ·rw [if_neg ha]
  have : k ∉ t.map (·.1) := fun hm => by
   obtain ⟨p, hp, hk⟩ := List.mem_map.mp hm
   exact ha (List.any_eq_true.mpr ⟨p, hp, by simpa using hk⟩)
  rw [if_neg this, List.map_append]; rfl
theorem A8Q (t : Tab) (k : By) : keys (del t k) = (keys t).filter fun x => decide (x ≠ k) := by
 unfold del keys
 rw [List.filter_map]
 rfl
theorem A6J {t : Tab} {k : By} : k ∈ keys t ↔ ∃ v, get t k = some v := by
 unfold keys get
 constructor
 ·intro h
  obtain ⟨p, hp, hk⟩ := List.mem_map.mp h
  cases hf : t.find? (fun p => decide (p.1 = k)) with
  | none => exact absurd (by simpa using hk) (List.find?_eq_none.mp hf p hp)
  | some q => exact ⟨q.2, rfl⟩
 ·rintro ⟨v, h⟩
  cases hf : t.find? (fun p => decide (p.1 = k)) with
  | none => rw [hf] at h; cases h
  | some q =>
   have := List.find?_some hf
   exact List.mem_map.mpr ⟨q, List.mem_of_find?_eq_some hf, by simpa using this⟩
theorem B1x {l : List By} {a : By} (nd : l.Nodup) (h : ∀ x ∈ l, x = a) (m : a ∈ l) : l = [a] := by
 cases l with
 | nil => cases m
 | cons x r =>
  have hx := h x (.head _)
  subst hx
  cases r with
  | nil => rfl
  | cons y r =>
   have hy := h y (.tail _ (.head _))
   subst hy
   exact absurd (.head _) (List.nodup_cons.mp nd).1
structure Neat (t : Tab) : Prop where
 nd : (keys t).Nodup
 in3 : ∀ k ∈ keys t, k = sk ∨ k = ak ∨ k = dk
theorem Neat.nil : Neat [] := ⟨List.nodup_nil, nofun⟩
theorem Neat.sto {t : Tab} (h : Neat t) {k v : By} (hk : k = sk ∨ k = ak ∨ k = dk) : Neat (sto t k v) := by
 refine ⟨?_, fun x hx => ?_⟩
 ·rw [A8P]
  split
  ·exact h.nd
  ·rename_i hn
   rw [List.nodup_append]
   exact ⟨h.nd, by simp, fun a ha b hb e => by simp at hb; subst hb; subst e; exact hn ha⟩
 ·rw [A8P] at hx
  split at hx
  ·exact h.in3 x hx
  ·rcases List.mem_append.mp hx with hx | hx
   ·exact h.in3 x hx
   ·simp at hx; subst hx; exact hk
theorem Neat.del {t : Tab} (h : Neat t) (k : By) : Neat (del t k) := by
 refine ⟨?_, fun x hx => ?_⟩
 ·rw [A8Q]; exact h.nd.sublist List.filter_sublist
 ·rw [A8Q] at hx; exact h.in3 x (List.mem_filter.mp hx).1
theorem Neat.len {t : Tab} (h : Neat t) : t.length ≤ 3 := by
 have : (keys t).length ≤ [sk, ak, dk].length := List.Nodup.length_le_of_subset h.nd fun x hx => by
  have := h.in3 x hx
  simpa using this
 simpa [keys] using this
theorem Neat.only {t : Tab} (h : Neat t) {f : By → Bool} {a : By} (hf : ∀ k, k = sk ∨ k = ak ∨ k = dk → (f k = true ↔ k = a)) (m : a ∈ keys t) : (keys t).filter f = [a] := by
 refine B1x (h.nd.sublist List.filter_sublist) (fun x hx => ?_) ?_
 ·obtain ⟨h1, h2⟩ := List.mem_filter.mp hx
  exact (hf x (h.in3 x h1)).mp h2
 ·exact List.mem_filter.mpr ⟨m, (hf a (h.in3 a m)).mpr rfl⟩
theorem Neat.none {t : Tab} (h : Neat t) {f : By → Bool} {a : By} (hf : ∀ k, k = sk ∨ k = ak ∨ k = dk → (f k = true ↔ k = a)) (m : a ∉ keys t) : (keys t).filter f = [] := by
 rw [List.filter_eq_nil_iff]
 intro x hx he
 have := (hf x (h.in3 x hx)).mp he
 subst this
 exact m hx
theorem B2N (k : By) (h : k = sk ∨ k = ak ∨ k = dk) : inr [100] [101] k = true ↔ k = dk := by
 rcases h with rfl | rfl | rfl <;> decide
theorem B6D (k : By) (h : k = sk ∨ k = ak ∨ k = dk) : inr [115] [116] k = true ↔ k = sk := by
 rcases h with rfl | rfl | rfl <;> decide
noncomputable def A5B (kd : Int) (val : By) (exp old : Option By) : Option By :=
 if kd = 2 then none else if kd = 3 ∧ old ≠ exp then old else if kd = 4 then some (old.getD [] ++ val) else some val
structure Plan where
 n : Nat → Int
 kd : Nat → Int
 ex : Nat → Bool
noncomputable def Plan.w (i : Nat) : UInt8 := (97 + i).toUInt8
noncomputable def Plan.cmd (P : Plan) : Nat → Cmd
 | 0 => .opn (P.n 0)
 | i + 1 => .op (P.kd (i + 1)) (P.n (i + 1)) (Plan.w (i + 1)) (P.ex (i + 1))
noncomputable def Plan.st (P : Plan) : Nat → Option By
 | 0 => none
 | i + 1 => A5B (P.kd (i + 1)) [Plan.w (i + 1)] (P.cmd (i + 1)).exp (P.st i)
noncomputable def Plan.want (P : Plan) : Nat → By
 | 0 => [0, 0]
 | i + 1 => A3B (P.kd (i + 1)) (P.cmd (i + 1)).exp (P.st i)
structure Plan.Ok (P : Plan) : Prop where
 n0 : 0 ≤ P.n 0
 n2 : P.n 2 < 10
 up : P.n 0 < P.n 1 ∧ P.n 1 < P.n 2
 kd : ∀ i, P.kd i = 1 ∨ P.kd i = 2 ∨ P.kd i = 3 ∨ P.kd i = 4
theorem Plan.num (P : Plan) (i : Nat) : (P.cmd i).num = P.n i := by cases i <;> rfl
theorem Plan.st_len (P : Plan) : ∀ (i : Nat) (v : By), P.st i = some v → v.length ≤ i
 | 0, v, h => by cases h
 | i + 1, v, h => by
  have ih := P.st_len i
  simp only [Plan.st, A5B] at h
  split at h
  ·cases h
  ·split at h
   ·have := ih v h; omega
   ·split at h
    ·cases h
     cases hs : P.st i with
     | none => simp
     | some u => have := ih u hs; simp; omega
    ·cases h; simp
theorem A8I {o : Option By} {n : Nat} (h : ∀ v, o = some v → v.length ≤ n) : (may o).length ≤ n + 2 := by
 cases o with
 | none => simp [may]
 | some v => have := h v rfl; simp [may]; omega
theorem Plan.want_len (P : Plan) : ∀ (i : Nat), (P.want i).length ≤ i + 4
 | 0 => by simp [Plan.want]
 | i + 1 => by
  have := A8I (P.st_len i)
  simp only [Plan.want, A3B]
  split
  ·simp
  ·simp; omega
theorem Plan.le {P : Plan} (h : P.Ok) {i j : Nat} (hi : i < j) (hj : j ≤ 2) : P.n i < P.n j := by
 obtain ⟨h1, h2⟩ := h.up
 have : (i = 0 ∧ j = 1) ∨ (i = 0 ∧ j = 2) ∨ (i = 1 ∧ j = 2) := by omega
 rcases this with ⟨rfl, rfl⟩ | ⟨rfl, rfl⟩ | ⟨rfl, rfl⟩ <;> omega
theorem Plan.lt10 {P : Plan} (h : P.Ok) {i : Nat} (hi : i ≤ 2) : 0 ≤ P.n i ∧ P.n i < 10 := by
 obtain ⟨h1, h2⟩ := h.up
 have h3 := h.n0
 have h4 := h.n2
 have : i = 0 ∨ i = 1 ∨ i = 2 := by omega
 rcases this with rfl | rfl | rfl <;> omega
theorem Plan.cmdOk {P : Plan} (h : P.Ok) {i : Nat} (hi : i ≤ 2) : (P.cmd i).Ok := by
 have := P.lt10 h hi
 refine ⟨by rw [P.num]; omega, by rw [P.num]; omega, ?_⟩
 cases i with
 | zero => exact .inl rfl
 | succ i => exact .inr (h.kd (i + 1))
structure TabAt (P : Plan) (hi : Int) (t : Tab) : Prop where
 neat : Neat t
 none : hi < 0 → t = []
 some : ∀ i : Nat, hi = i → get t sk = some (enc (P.n i) (P.want i)) ∧ get t dk = P.st i
theorem TabAt.nil (P : Plan) : TabAt P (-1) [] := ⟨.nil, fun _ => rfl, fun i h => by omega⟩
theorem B4g (t : Tab) (kd : Int) (val : By) (exp : Option By) (k : By) (hk : kd = 1 ∨ kd = 2 ∨ kd = 3 ∨ kd = 4) :
  get ((A3C kd val exp (get t dk)).foldl Op.run t) k = if k = dk then A5B kd val exp (get t dk) else get t k := by
 unfold A3C A5B
 rcases hk with rfl | rfl | rfl | rfl
 ·simp [Op.run, A2w]
 ·cases hg : get t dk with
  | none =>
   simp
   intro e; subst e; exact hg
  | some v => simp [Op.run, B4h]
 ·by_cases he : get t dk = exp
  ·simp [he, Op.run, A2w]
  ·simp [he]
   intro e; subst e; rfl
 ·simp [Op.run, A2w]
theorem B1z {t : Tab} (h : Neat t) (kd : Int) (val : By) (exp old : Option By) : Neat ((A3C kd val exp old).foldl Op.run t) := by
 unfold A3C
 repeat' split
 all_goals first | exact h | exact h.sto (.inr (.inr rfl)) | exact h.del _
theorem handled {P : Plan} (hP : P.Ok) {hi : Int} {t : Tab} (T : TabAt P hi t) {i : Nat} (hi2 : i ≤ 2) (h1 : (i : Int) ≤ hi + 1) (h2 : hi ≤ 2) (v : By) : ∃ rep ops, DoRes t (P.cmd i) rep ops ∧
  ((hi ≤ i ∧ rep = P.want i) ∨ ((i : Int) < hi ∧ rep = [3, 0])) ∧ TabAt P (max hi i) ((ops ++ [Op.put ak v]).foldl Op.run t) := by
 have hak : ¬ sk = ak := by decide
 have hak' : ¬ dk = ak := by decide
 have hskdk : ¬ sk = dk := by decide
 have hdksk : ¬ dk = sk := by decide
 have hwl : ∀ j, j ≤ 2 → (P.want j).length < 100 := fun j hj => by have := P.want_len j; omega
 by_cases hlt : (i : Int) ≤ hi
 ·obtain ⟨j, hj⟩ : ∃ j : Nat, hi = j := ⟨hi.toNat, by omega⟩
  obtain ⟨g1, g2⟩ := T.some j hj
  have hmx : max hi (i : Int) = hi := by omega
  have hT : TabAt P (max hi i) (([] ++ [Op.put ak v]).foldl Op.run t) := by
   rw [hmx]
   refine ⟨T.neat.sto (.inr (.inl rfl)), fun h => by omega, fun k hk => ?_⟩
   show get (sto t ak v) sk = _ ∧ get (sto t ak v) dk = _
   rw [A2w, A2w, if_neg hak, if_neg hak']
   exact T.some k hk
  by_cases hEq : (i : Int) = hi
  ·have : i = j := by omega
   subst this
   exact ⟨P.want i, [], .dup (by rw [P.num]; exact g1) (hwl i hi2), .inl ⟨by omega, rfl⟩, hT⟩
  ·have hj2 : j ≤ 2 := by omega
   have := P.lt10 hP hj2
   exact ⟨[3, 0], [], .stale g1 (hwl j hj2) (by omega) (by rw [P.num]; exact P.le hP (by omega) hj2), .inr ⟨by omega, rfl⟩, hT⟩
 ·have hmx : max hi (i : Int) = i := by omega
  rw [hmx]
  cases i with
  | zero =>
   have ht := T.none (by omega)
   subst ht
   refine ⟨[0, 0], [.put sk (enc (P.n 0) [0, 0])], .opn rfl, .inl ⟨by omega, rfl⟩, ?_, fun h => by omega, fun k hk => ?_⟩
   ·exact (Neat.nil.sto (.inl rfl)).sto (.inr (.inl rfl))
   ·have : k = 0 := by omega
    subst this
    show get (sto (sto [] sk _) ak v) sk = _ ∧ get (sto (sto [] sk _) ak v) dk = _
    rw [A2w, A2w, A2w, A2w, if_neg hak, if_neg hak', if_pos rfl, if_neg hdksk]
    exact ⟨rfl, rfl⟩
  | succ i =>
   have hii : hi = i := by omega
   obtain ⟨g1, g2⟩ := T.some i hii
   have hi0 := P.lt10 hP (i := i) (by omega)
   have hlt := P.le hP (i := i) (j := i + 1) (by omega) hi2
   have hkd := hP.kd (i + 1)
   refine ⟨_, _, .eff g1 (hwl i (by omega)) hi0.1 hlt, .inl ⟨by omega, ?_⟩, ?_, fun h => by omega, fun k hk => ?_⟩
   ·rw [g2]; rfl
   ·rw [List.append_assoc, List.foldl_append]
    exact ((B1z T.neat _ _ _ _).sto (.inl rfl)).sto (.inr (.inl rfl))
   ·have : k = i + 1 := by omega
    subst this
    rw [List.append_assoc, List.foldl_append]
    show get (sto (sto _ sk _) ak v) sk = _ ∧ get (sto (sto _ sk _) ak v) dk = _
    rw [A2w, A2w, A2w, A2w, if_neg hak, if_neg hak', if_pos rfl, if_neg hdksk, B4g _ _ _ _ _ hkd, if_pos rfl, g2]
    exact ⟨rfl, rfl⟩
end Mine
namespace Mine
theorem B0j {l : List Value} {x : Value} : (l ++ [x])[((-1 : Int) + ((l ++ [x]).length : Int)).toNat]? = some x := by
 have : ((-1 : Int) + ((l ++ [x]).length : Int)).toNat = l.length := by simp only [List.length_append, List.length_cons, List.length_nil]; omega
 rw [this]
 simp
noncomputable def kindOf (x : Int) : Int := if x = 0 then 4 else if x = 1 then 1 else if x = 2 then 3 else 2
theorem B0q (x : Int) : kindOf x = 1 ∨ kindOf x = 2 ∨ kindOf x = 3 ∨ kindOf x = 4 := by
 unfold kindOf; repeat' split
 all_goals simp
theorem B1I {x : Int} {t1 t2 t3 t4 : Tok} (h0 : 0 ≤ x) (h1 : x < 4) : ∃ t, ([.int 4 t1, .int 1 t2, .int 3 t3, .int 2 t4] : List Value)[x.toNat]? = some (.int (kindOf x) t) := by
 have : x = 0 ∨ x = 1 ∨ x = 2 ∨ x = 3 := by omega
 rcases this with rfl | rfl | rfl | rfl
 ·exact ⟨t1, rfl⟩
 ·exact ⟨t2, rfl⟩
 ·exact ⟨t3, rfl⟩
 ·exact ⟨t4, rfl⟩
noncomputable def A0D (av bv n0 : Int) : Plan where
 n i := n0 + i * (1 + (bv.fdiv 625).fmod 2)
 kd i := kindOf (((av.fdiv 5).fdiv (4 ^ (i - 1))).fmod 4)
 ex i := decide (((av.fdiv 80).fdiv (2 ^ (i - 1))).fmod 2 = 1)
theorem A7r {av bv n0 : Int} (h0 : 0 ≤ n0) (h1 : n0 < 3) : (A0D av bv n0).Ok := by
 have d0 : 0 ≤ (bv.fdiv 625).fmod 2 := Int.fmod_nonneg_of_pos _ (by decide)
 have d1 : (bv.fdiv 625).fmod 2 < 2 := Int.fmod_lt_of_pos _ (by decide)
 refine ⟨?_, ?_, ⟨?_, ?_⟩, fun i => B0q _⟩
 ·show 0 ≤ n0 + ((0 : Nat) : Int) * _; omega
 ·show n0 + ((2 : Nat) : Int) * _ < 10; omega
 ·show n0 + ((0 : Nat) : Int) * _ < n0 + ((1 : Nat) : Int) * _; omega
 ·show n0 + ((1 : Nat) : Int) * _ < n0 + ((2 : Nat) : Int) * _; omega
theorem A8g {av bv n0 : Int} : (A0D av bv n0).n 0 = n0 := by show n0 + ((0 : Nat) : Int) * _ = n0; omega
theorem A5J {av bv n0 : Int} (j : Nat) : (A0D av bv n0).n (j + 1) = (A0D av bv n0).n j + 1 + (bv.fdiv 625).fmod 2 := by
 show n0 + ((j + 1 : Nat) : Int) * _ = n0 + (j : Int) * _ + 1 + _
 rw [show ((j + 1 : Nat) : Int) = (j : Int) + 1 from rfl, Int.add_mul]
 omega
structure Is4 (P : Plan) (j : Nat) (nv dv wv sv : List Value) : Prop where
 ln : nv.length = j + 1
 ld : dv.length = j + 1
 lw : wv.length = j + 1
 ls : sv.length = j + 1
 at' : ∀ i, i ≤ j → (∃ t, nv[i]? = some (.int (P.n i) t)) ∧ (∃ t, dv[i]? = some (.bytes (P.cmd i).data.toArray t)) ∧ (∃ t, wv[i]? = some (.bytes (P.want i).toArray t)) ∧ (∃ t, sv[i]? = some (obl (P.st i) t))
theorem Is4.snoc {P : Plan} {j : Nat} {nv dv wv sv : List Value} (h : Is4 P j nv dv wv sv) {t1 t2 t3 t4 : Tok} {n : Int} {d w : Array UInt8} {v : Value} (hn : n = P.n (j + 1)) (hd : d = (P.cmd (j + 1)).data.toArray) (hw : w = (P.want (j + 1)).toArray) (hv : v = obl (P.st (j + 1)) t4) :
  Is4 P (j + 1) (nv ++ [.int n t1]) (dv ++ [.bytes d t2]) (wv ++ [.bytes w t3]) (sv ++ [v]) := by
 subst hn hd hw hv
 refine ⟨by simp [h.ln], by simp [h.ld], by simp [h.lw], by simp [h.ls], fun i hi => ?_⟩
 by_cases hij : i ≤ j
 ·obtain ⟨⟨a, ha⟩, ⟨b, hb⟩, ⟨c, hc⟩, ⟨d, hd⟩⟩ := h.at' i hij
  have l1 := h.ln; have l2 := h.ld; have l3 := h.lw; have l4 := h.ls
  refine ⟨⟨a, ?_⟩, ⟨b, ?_⟩, ⟨c, ?_⟩, ⟨d, ?_⟩⟩ <;> rw [List.getElem?_append_left (by omega)] <;> assumption
 ·have : i = j + 1 := by omega
  subst this
  refine ⟨⟨t1, ?_⟩, ⟨t2, ?_⟩, ⟨t3, ?_⟩, ⟨t4, ?_⟩⟩
  ·rw [List.getElem?_append_right (by rw [h.ln]; omega), h.ln]; simp
  ·rw [List.getElem?_append_right (by rw [h.ld]; omega), h.ld]; simp
  ·rw [List.getElem?_append_right (by rw [h.lw]; omega), h.lw]; simp
  ·rw [List.getElem?_append_right (by rw [h.ls]; omega), h.ls]; simp
theorem B1o {K code : Int} {exp old : Option By} (hK : K ≠ 5) (hc : (K = 3 ∧ old ≠ exp → code = 1) ∧ (¬ (K = 3 ∧ old ≠ exp) → code = 0)) : byteArr [code] ++ (may old).toArray = (A3B K exp old).toArray := by
 unfold A3B
 rw [if_neg hK]
 by_cases h : K = 3 ∧ old ≠ exp
 ·rw [if_pos h, hc.1 h]
  rw [show byteArr [1] = [(1 : UInt8)].toArray from rfl]
  simp
 ·rw [if_neg h, hc.2 h]
  rw [show byteArr [0] = [(0 : UInt8)].toArray from rfl]
  simp
theorem B0k {l : List Value} {j : Nat} {x : Value} (hl : l.length = j + 1) (h : l[j]? = some x) : l[((-1 : Int) + (l.length : Int)).toNat]? = some x := by
 rw [show ((-1 : Int) + (l.length : Int)).toNat = j from by omega]; exact h
theorem Is4.one {P : Plan} {t1 t2 t3 t4 : Tok} {n0 : Int} (h : P.n 0 = n0) : Is4 P 0 [.int n0 t1] [.bytes (Cmd.opn n0).data.toArray t2] [.bytes [0, 0].toArray t3] [.none] := by
 subst h
 refine ⟨rfl, rfl, rfl, rfl, fun i hi => ?_⟩
 have : i = 0 := by omega
 subst this
 exact ⟨⟨t1, rfl⟩, ⟨t2, rfl⟩, ⟨t3, rfl⟩, ⟨t4, rfl⟩⟩
end Mine
namespace Mine
section
variable {Γ : Cx} {vs : A0e} {led led' : Led} {h h' : Heap} {tk : Nat} {Q : Value → A0e → Led → Prop} {QB : Bool → A0e → Led → Prop}
theorem A9G {x : Str} {pos : Pos} {v : Value} {c : Addr} (hcl : Γ.cl = [(x, c)]) (hk : Γ.cs.names.lookup x = some .cell) (hm : (c, LObj.cell (some v)) ∈ led) (hd : (x == ("__debug__" : Str)) = false) (q : Q v vs led) : Run Γ vs led (eval (.Name x pos) Γ.env) Q := Run.leaf fun h tk S => by
 obtain ⟨o, ho, ho', _⟩ := S.get hm
 exact wpAny_Name (wpAny_loadName_cell (s := Γ.at h tk) (env := Γ.env) (c := c) S.hk hk (by show List.lookup x Γ.cl = some c; rw [hcl]; simp [List.lookup_cons]) ⟨o, ho, ho'⟩ (Post.mk S q)) hd
theorem A8y {x : Str} {v : Value} {o : Option Value} {c : Addr} {Q : Unit → A0e → Led → Prop} (hcl : Γ.cl = [(x, c)]) (hk : Γ.cs.names.lookup x = some .cell) (U : Upd1 c (.cell o) (.cell (some v)) led led') (q : Q () vs led') : Run Γ vs led (storeName Γ.env x v) Q := Run.leaf fun h tk S => by
 obtain ⟨ob, ho, ho', _⟩ := S.get U.mem
 refine wpAny_storeName_cell (s := Γ.at h tk) (env := Γ.env) (c := c) (v₀ := o) S.hk hk (by show List.lookup x Γ.cl = some c; rw [hcl]; simp [List.lookup_cons]) ⟨ob, ho, ho'⟩ fun h' hc hs => ?_
 obtain ⟨o2, h2, h2'⟩ := hc
 exact Post.mk (S.upd U hs h2 h2') q
end
section
variable {Γ : Cx} {vs : A0e} {led : Led} {k : List (List Stmt)} {rest : List Stmt} {Q : Flow → A0e → Led → Prop}
theorem A7U {x : Str} {pos' pos : Pos} {value : Expr} {c : Addr} (hcl : Γ.cl = [(x, c)]) (hk : Γ.cs.names.lookup x = some .cell) (H : Run Γ vs led (eval value Γ.env) fun v vs led => ∃ o led', Upd1 c (.cell o) (.cell (some v)) led led' ∧ Do Γ vs led' (rest :: k) Q)
  (hs : swapsWith value (some (.Name x pos')) pos.line Γ.env = pure false := by rfl) : Do Γ vs led ((.Assign [.Name x pos'] value pos :: rest) :: k) Q := B0T (by
 rw [exec_Assign_Name Γ.env x pos' value pos hs]
 refine Run.stand (Run.thn H fun v vs led ⟨o, led', U, q⟩ => Run.stand (Run.thn (A5l (A8y (Q := fun _ vs led => Do Γ vs led (rest :: k) Q) hcl hk U q)) fun _ vs led q => Run.pure ⟨rfl, q⟩)))
end
section
variable {Γ : Cx} {vs : A0e} {led : Led} {h h' : Heap} {tk : Nat} {Q : Value → A0e → Led → Prop}
theorem A9h {value slice : Expr} {l a : Addr} {xs : List Value} {vl vu : Value} {lo hi : Option Int} (hl : Γ.h₀.IsList l xs.toArray) (ha : (a, LObj.raw { cls := .type "slice", data := .fields #[vl, vu, .none] }) ∈ led) (pl : IsPart vl lo) (pu : IsPart vu hi) (hz : xs.length ≤ 1000000)
  (q : ∀ d, Q (.ref d) vs ((d, .list (slicePick xs.toArray lo hi none).toList) :: led))
  (hs : subscripted slice false (.ref l) (.ref a) = operate [.ref a, .ref l] (getItem (.ref l) (.ref a))) (ht : ∀ r, letTemporaryGo value (.ref l) r = pure ()) : Run Γ vs led (subscriptTail value slice (.ref l) (.ref a)) Q := Run.leaf fun h tk S => by
 obtain ⟨o, ho, rfl, _⟩ := S.get ha
 obtain ⟨ol, hol, hc, n, hd⟩ := hl
 have hl' : h.IsList l xs.toArray := ⟨ol, S.F.keep _ _ hol, hc, n, hd⟩
 exact subscriptTail_ops (s := Γ.at h tk) hl'.typeIs list_getitem_lookup (wpAny_getItem_list_slice (s := Γ.at h tk) hl' ⟨_, ho, rfl, rfl⟩ pl pu .none (by simp) (Post.mk (tk := tk) (S.alloc (lo := .list _) ⟨0, rfl⟩ rfl) (q _)) (by rw [List.size_toArray, sizeLine_eq]; omega)) hs ht
theorem B2m {elt iter : Expr} {x : Str} {px pos : Pos} {ifs : List Expr} {scope : Scope} {cl : List (Str × Addr)} {n : Nat} (hn : n ≤ 1000000) (J : Nat → List Value → Led → Prop)
  (H : Run Γ.off vs led (eval iter Γ.env) fun w vs' led' => Stop (∃ r t u v, w = .ref r ∧ (r, A5D 0 (0 + n) 1 t u v) ∈ led' ∧ vs' = vs ∧ J 0 [] led'))
  (E : ∀ i t ys L a C D, i < n → J i ys L → ys.length ≤ i → Run Γ.off vs ((a, itR 0 n (i + 1)) :: (C, .ns [(x, some (.int (0 + i) t))]) :: (D, .list ys) :: L) (A4B ifs (compEnvC scope cl C Γ.env)) fun b vs' led' =>
      (b = true → Run Γ.off vs' led' (eval elt (compEnvC scope cl C Γ.env)) fun y vs'' led'' => vs'' = vs ∧ ∃ led₁, Sub ((a, itR 0 n (i + 1)) :: (C, .ns [(x, some (.int (0 + i) t))]) :: (D, .list ys) :: led₁) led'' ∧ J (i + 1) (ys ++ [y]) led₁) ∧
      (b = false → vs' = vs ∧ ∃ led₁, Sub ((a, itR 0 n (i + 1)) :: (C, .ns [(x, some (.int (0 + i) t))]) :: (D, .list ys) :: led₁) led' ∧ J (i + 1) ys led₁))
  (q : ∀ ys L D, J n ys L → ys.length ≤ n → Q (.ref D) vs ((D, .list ys) :: L))
  (hclos : closureFor scope Γ.env = pure cl) (hc : B1O scope x = true) (hs : ∀ x, foldedSetIterable iter Γ.env x = pure x) : Run Γ vs led (eval (.ListComp elt [⟨.Name x px, iter, ifs, 0⟩] scope pos) Γ.env) Q := by
 refine A4k (cl := cl) (x := x) (H.mono fun w vs' led' zz => ?_) hclos hc hs
 obtain ⟨r, t, u, v, e1, hl, e2, j⟩ := zz
 subst e1 e2
 refine A8R (a := 0) hl (by decide) (by decide) hn fun a => ⟨_, _, _, _, A6o _ 0 n, hn, a, led', J, rfl, .refl, j, fun _ _ _ _ => trivial, fun i v ys L C D hi ⟨t, e⟩ j hy => ?_, fun ys L D j hn => q ys L D j hn⟩
 subst e
 exact E i t ys L a C D hi j hy
end
section
variable {Γ : Cx} {vs : A0e} {led : Led} {scope : Scope} {cl : List (Str × Addr)} {Q : A0e → Led → Prop}
theorem B1q {elt : Expr} {gs : List Comprehension} {y : Str} {py pos : Pos} {line : Nat} (hk : Γ.cs.kind = .function) (hl : Γ.cs.names.lookup y = some .local) (he : (py.line == pos.line && !(scope.names.any fun z => z.1 == y && (z.2 == .local || z.2 == .cell))) = true) :
  swapsWith (.ListComp elt gs scope pos) (some (.Name y py)) line Γ.env = pure true := by
 simp only [Bool.and_eq_true] at he
 have h1 : Γ.env.blockKind = .function := by unfold Env.blockKind; first | exact hk | simp [hk]
 have h2 : Γ.env.kindOf y = some .local := hl
 have h3 : (Expr.ListComp elt gs scope pos).pos = pos := rfl
 unfold swapsWith
 simp only [h1, h2, h3]
 have h4 := he.2
 simp only [Bool.not_eq_true'] at h4
 rw [show ((py.line == pos.line) = true) from he.1]
 rw [show (scope.names.any fun x => match x with | (n, k) => n == y && (k == .local || k == .cell)) = false from h4]
 rfl
theorem A7T {elt iter : Expr} {x y : Str} {px py pos spos : Pos} {ifs : List Expr}
  (H : Run Γ.off vs led (eval iter Γ.env) fun xv vs led => Run Γ.off vs led (pyIter xv) (CompI Γ scope cl elt x ifs fun vs led D => ∃ vs', VUpd y (.ref D) vs vs' ∧ Q vs' led))
  {vs9 : A0e} (U0 : VUpd y .none vs vs9) (he : (py.line == pos.line && !(scope.names.any fun z => z.1 == y && (z.2 == .local || z.2 == .cell))) = true)
  (hclos : closureFor scope Γ.env = pure cl) (hc : B1O scope x = true) (hs : ∀ x, foldedSetIterable iter Γ.env x = pure x) :
  Run Γ vs led (exec (.Assign [.Name y py] (.ListComp elt [⟨.Name x px, iter, ifs, 0⟩] scope pos) spos) Γ.env) fun f vs led => f = .next ∧ Q vs led := Run.leaf fun h tk S => by
 have hsw : swapsWith (.ListComp elt [⟨.Name x px, iter, ifs, 0⟩] scope pos) (some (.Name y py)) spos.line Γ.env = pure true := B1q S.hk (S.hl y U0.mem).1 he
 rw [exec_Assign_Name_used _ _ _ _ hsw]
 refine wpAny_bind (wpAny_standAt (wpAny_bind ?_))
 show wpAny _ Γ.A (do let _ ← comprehension (.ListComp elt [⟨.Name x px, iter, ifs, 0⟩] scope pos) scope Γ.env _ (newList []) false (eval iter Γ.env) (some (assign (.Name y py) Γ.env))) _ _ _
 refine wpAny_bind (wpAny_mono (A7K (use := some (assign (.Name y py) Γ.env)) (PQ := fun _ s' => Post Γ (fun (f : Flow) vs led => f = Flow.next ∧ Q vs led) Flow.next s') (fun vs led D C ys o h tk q S' => ?_) H hclos hc hs S) (fun _ s' hq => wpAny_pure (wpAny_pure hq)) fun _ _ e => e)
 obtain ⟨vs', U, q⟩ := q
 show wpAny _ Γ.A (assign (.Name y py) Γ.env (.ref D)) _ _ _
 refine wpAny_assign_Name (wpAny_storeName_local (S'.hl y U.mem).1 S'.F.ns (fun h₂ hn₂ hs₂ => ?_) (by show (Γ.cs.kind == .class || (Γ.cs.kind == .module && Γ.L != mainGlobals)) = false; rw [S'.hk]; rfl))
 have S'' := S'.setvar U hn₂ hs₂
 exact ⟨_, S''.nsAt (.head _), fun h'' hs'' => Post.mk (S''.ext hs''.extBut) ⟨rfl, q⟩⟩
theorem B4S {elt iter : Expr} {x y : Str} {px py pos spos : Pos} {ifs : List Expr} {rest : List Stmt} {ks : List (List Stmt)} {QF : Flow → A0e → Led → Prop}
  (H : Run Γ.off vs led (eval iter Γ.env) fun w vs' led' => Stop (vs' = vs ∧ ∃ l xs, ∃ J : Nat → List Value → Led → Prop, w = .ref l ∧ xs.length ≤ 1000000 ∧ (l, LObj.list xs) ∈ led' ∧ J 0 [] led' ∧ (∀ i ys L, J i ys L → (l, LObj.list xs) ∈ L) ∧
   (∀ i v ys L a C D, xs[i]? = some v → J i ys L → ys.length ≤ i → Run Γ.off vs ((a, itL l (i + 1)) :: (C, .ns [(x, some v)]) :: (D, .list ys) :: L) (A4B ifs (compEnvC scope cl C Γ.env)) fun b vs' led' =>
      (b = true → Run Γ.off vs' led' (eval elt (compEnvC scope cl C Γ.env)) fun y vs'' led'' => vs'' = vs ∧ ∃ led₁, Sub ((a, itL l (i + 1)) :: (C, .ns [(x, some v)]) :: (D, .list ys) :: led₁) led'' ∧ J (i + 1) (ys ++ [y]) led₁) ∧
      (b = false → vs' = vs ∧ ∃ led₁, Sub ((a, itL l (i + 1)) :: (C, .ns [(x, some v)]) :: (D, .list ys) :: led₁) led' ∧ J (i + 1) ys led₁)) ∧
   (∀ ys L D, J xs.length ys L → ys.length ≤ xs.length → ∃ vs', VUpd y (.ref D) vs vs' ∧ Do Γ vs' ((D, .list ys) :: L) (rest :: ks) QF)))
  {vs9 : A0e} (U0 : VUpd y .none vs vs9) (he : (py.line == pos.line && !(scope.names.any fun z => z.1 == y && (z.2 == .local || z.2 == .cell))) = true)
  (hclos : closureFor scope Γ.env = pure cl) (hc : B1O scope x = true) (hs : ∀ x, foldedSetIterable iter Γ.env x = pure x) :
  Do Γ vs led ((.Assign [.Name y py] (.ListComp elt [⟨.Name x px, iter, ifs, 0⟩] scope pos) spos :: rest) :: ks) QF := B0T (by
 refine A7T (cl := cl) (x := x) (Q := fun vs led => Do Γ vs led (rest :: ks) QF) (H.mono fun w vs' led' zz => ?_) U0 he hclos hc hs
 obtain ⟨e2, l, xs, J, e1, hz, hl, j0, hJ, E, q⟩ := zz
 subst e1 e2
 exact A3W hl fun a => ⟨_, _, _, _, A2E _ l xs, hz, a, led', J, rfl, .refl, j0, hJ, fun i v ys L C D _ hv j hy => E i v ys L a C D hv j hy, fun ys L D j hn => q ys L D j hn⟩)
end
section
variable {Γ : Cx} {vs : A0e} {led : Led} {h h' : Heap} {tk : Nat} {Q : Value → A0e → Led → Prop}
noncomputable def FlatEq (v w : Value) : Prop := (∃ i t u, v = .int i t ∧ w = .int i u) ∨ (∃ b, v = .bool b ∧ w = .bool b) ∨ (∃ b t u, v = .bytes b t ∧ w = .bytes b u)
noncomputable def EqV (led : Led) : Nat → Value → Value → Prop
 | 0, v, w => FlatEq v w
 | n + 1, v, w => FlatEq v w ∨ ∃ (p q : Addr) (xs ys : List Value), v = .ref p ∧ w = .ref q ∧ (p, LObj.tup xs) ∈ led ∧ (q, LObj.tup ys) ∈ led ∧ xs.length = ys.length ∧ ∀ (j : Nat) (x y : Value), xs[j]? = some x → ys[j]? = some y → EqV led n x y
theorem FlatEq.at {v w : Value} (f : FlatEq v w) (A : Around) (s : Shared) : SeqAt.EqAt A s v w true := by
 rcases f with ⟨i, t, u, rfl, rfl⟩ | ⟨b, rfl, rfl⟩ | ⟨b, t, u, rfl, rfl⟩
 ·have := SeqAt.EqAt.int_int i t i u (A := A) (s := s)
  simpa using this
 ·have := SeqAt.EqAt.bool_bool b b (A := A) (s := s)
  simpa using this
 ·by_cases e : t = u
  ·subst e; exact SeqAt.EqAt.same _
  ·intro prog w E Q hq
   unfold eqBool
   refine wpAny_holding ?_
   refine wpAny_ite_split (fun hab => ?_) (fun _ => ?_)
   ·have := eq_of_beq hab
    injection this with _ e'
    exact absurd e' e
   ·refine wpAny_bind ?_
    have := PySem.W.eq_bytes (prog := prog) (w := w) (A := A) (E := E) (s := s) (b := b) (c := b) (t := t) (u := u) (Q := fun v s => wpAny (model prog w) A (truthOfDropped v) Q E s) (by
     rw [show (b.toList == b.toList) = true from by simp]
     exact wpAny_truthy_bool hq)
    exact this
theorem B0y {A : Around} {s : Shared} {p q : Addr} {xs ys : List Value} (hl : IsTup s.heap p xs.toArray) (hb : IsTup s.heap q ys.toArray) (hu : A.units < cLine) (hz : xs.length = ys.length) (he : ∀ (j : Nat) (x y : Value), xs[j]? = some x → ys[j]? = some y → SeqAt.EqAt A.in1 s x y true) :
  SeqAt.RcAt A s (.ref p) (.ref q) true := by
 have := SeqAt.RcAt.tuples (A := A) (s := s) (e := fun _ => true) hl hb hu (fun j h1 h2 => he j _ _ (by simp at h1 ⊢) (by simp at h2 ⊢))
 rw [show ((List.range (min xs.toArray.size ys.toArray.size)).all (fun _ => true) && xs.toArray.size == ys.toArray.size) = true from by simp [hz]] at this
 exact this
theorem EqV.at {h : Heap} {tk : Nat} (S : St Γ h vs led) : ∀ {n : Nat} {A : Around} {v w : Value}, EqV led n v w → A.units + 3 * n < cLine → SeqAt.EqAt A (Γ.at h tk) v w true
 | 0, A, v, w, e, _ => FlatEq.at e A _
 | n + 1, A, v, w, e, hu => by
  rcases e with e | ⟨p, q, xs, ys, rfl, rfl, h1, h2, hz, he⟩
  ·exact FlatEq.at e A _
  ·by_cases hpq : p = q
   ·subst hpq; exact SeqAt.EqAt.same _
   ·refine SeqAt.EqAt.of_refs hpq (B0y (S.isTup h1) (S.isTup h2) (by omega) hz fun j x y hx hy => EqV.at S (he j x y hx hy) ?_)
    have : A.in1.units ≤ A.units + 3 := by first | exact Nat.le_refl _ | (show A.units + _ ≤ _; exact Nat.add_le_add_left (by decide) _)
    omega
theorem B9I {p q : Addr} {xs ys : List Value} {n : Nat} (hn : n ≤ 100) (hu : Γ.un ≤ 9000) (h1 : (p, LObj.tup xs) ∈ led) (h2 : (q, LObj.tup ys) ∈ led) (hz : xs.length = ys.length) (he : ∀ (j : Nat) (x y : Value), xs[j]? = some x → ys[j]? = some y → EqV led n x y) (q' : Q (.bool true) vs led) :
  Run Γ vs led (compareOp .Eq (.ref p) (.ref q)) Q := Run.leaf fun h tk S => by
 have hc := cLine_is
 have hun : Γ.A.units = Γ.un := rfl
 refine B0y (A := Γ.A) (s := Γ.at h tk) (S.isTup h1) (S.isTup h2) (by rw [hun]; omega) hz (fun j x y hx hy => EqV.at S (he j x y hx hy) ?_) pw Γ.w NoE _ (Post.mk S q')
 have : Γ.A.in1.units ≤ Γ.A.units + 3 := by first | exact Nat.le_refl _ | (show Γ.A.units + _ ≤ _; exact Nat.add_le_add_left (by decide) _)
 omega
end
end Mine
namespace Mine
section
variable {Γ : Cx} {vs : A0e} {led led' : Led} {ss rest : List Stmt} {ks : List (List Stmt)} {Q : Flow → A0e → Led → Prop}
theorem A2P {s s' : Stmt} (e : s = s') (H : Do Γ vs led ((s' :: rest) :: ks) Q) : Do Γ vs led ((s :: rest) :: ks) Q := e ▸ H
theorem Do.sub (s : Sub led' led) (H : Do Γ vs led' (ss :: ks) Q) : Do Γ vs led (ss :: ks) Q := by
 show Run Γ vs led (execs ss Γ.env) _
 exact Run.sub s H
theorem e_b {c : Addr} {pos : Pos} {v : Value} {Q : Value → A0e → Led → Prop} (L : LawCx Γ c) (hm : (c, LObj.cell (some v)) ∈ led) (q : Q v vs led) : Run Γ vs led (eval (.Name "b" pos) Γ.env) Q := A9G L.cl L.kb hm (by decide) q
noncomputable def StoC (c : Addr) (v : Value) (led : Led) (K : Led → Prop) : Prop := ∃ o led', Upd1 c (.cell o) (.cell (some v)) led led' ∧ K led'
theorem StoC.mk {c : Addr} {v : Value} {o : Option Value} {K : Led → Prop} (U : Upd1 c (.cell o) (.cell (some v)) led led') (k : K led') : StoC c v led K := ⟨o, led', U, k⟩
theorem X_b {c : Addr} {pos' pos : Pos} {value : Expr} (L : LawCx Γ c) (H : Run Γ vs led (eval value Γ.env) fun v vs led => StoC c v led fun led' => Do Γ vs led' (rest :: ks) Q)
  (hs : swapsWith value (some (.Name "b" pos')) pos.line Γ.env = pure false := by rfl) : Do Γ vs led ((.Assign [.Name "b" pos'] value pos :: rest) :: ks) Q := A7U L.cl L.kb H hs
theorem El {c : Addr} {pos : Pos} {v : Value} (L : LawCx Γ c) (hm : (c, LObj.cell (some v)) ∈ led) : Ev Γ vs led Γ.env (.Name "b" pos) v := ⟨fun _ q => e_b L hm q, fun _ => rfl⟩
@[reducible] noncomputable def KStC (Γ : Cx) (QF : FP) (rest : List Stmt) (k : List (List Stmt)) (c : Addr) : VP := fun v vs led => StoC c v led fun led' => Do Γ vs led' (rest :: k) QF
theorem xB {c : Addr} {pos' pos : Pos} {value : Expr} (L : LawCx Γ c) (hs : swapsWith value (some (.Name "b" pos')) pos.line Γ.env = pure false) (H : Run Γ vs led (eval value Γ.env) (KStC Γ Q rest ks c)) : Do Γ vs led ((.Assign [.Name "b" pos'] value pos :: rest) :: ks) Q := X_b L H hs
theorem kStC {c : Addr} {v : Value} {o : Option Value} (U : Upd1 c (.cell o) (.cell (some v)) led led') (H : Do Γ vs led' (rest :: ks) Q) : KStC Γ Q rest ks c v vs led := StoC.mk U H
end
end Mine
namespace Mine
section
variable {Γ : Cx} {led R C : Led} {ks : List (List Stmt)} {rest : List Stmt} {Q : Flow → A0e → Led → Prop} {k : Nat} {w : World}
theorem B9o {sc c : Addr} {xs0 : List Value} {ns0 : List Int} (hd : Low Γ k) (hk : k ≤ 100) (L : LawCx Γ c) (hw : Γ.w = w) (hsc : Γ.h₀.IsList sc xs0.toArray) (hi0 : IntsAre xs0 ns0) (hz0 : xs0.length ≤ 63)
  (q : ∀ nu xs ns, IntsAre xs ns → xs.length ≠ 0 → xs.length ≤ 100 → Do Γ (LV (some (.ref sc)) none (some (.ref nu)) none none none none none none none none none none none none none none none none none none none none none none none) ((nu, .list xs) :: (c, .cell none) :: []) (rest :: ks) Q) :
  Do Γ (LV (some (.ref sc)) none none none none none none none none none none none none none none none none none none none none none none none none none) ((c, .cell none) :: []) ((A3g A0p 0 :: A3g A0p 1 :: rest) :: ks) Q := by
 have hdp := hd
 refine A2P (s' := .Assign [.Name _ _] (.ListComp _ [⟨.Name _ _, _, _, _⟩] _ _) _) rfl ?_
 dsimp only [LV] at q ⊢
 refine' B4S (cl := []) (x := "x") ?H ?U0 (by kernel_rfl) (by with_unfolding_all rfl) (by kernel_rfl) (by intro _; rfl)
 case U0 => exact V2
 case H =>
  refine B1u (En M0) ?_
  refine A7g ?_
  refine A7e ?_
  refine A6a ?_
  refine rAr Ar.con (fun _ => ?_)
  refine AllA.mk (fun _ => ?_)
  refine' A9h hsc ?ha ?pl ?pu (by omega) ?_ (by with_unfolding_all rfl) (by intro _; with_unfolding_all rfl)
  case ha => exact M0
  case pl => exact PySem.IsPart.none
  case pu => exact PySem.IsPart.int _ _
  intro l
  have hi1 := slice_ints_uptoW hi0 (y := 8) (by decide)
  generalize hxs : (slicePick xs0.toArray none (some 8) none).toList = xs at hi1
  have hz1 : xs.length ≤ 8 := by rw [hi1.length]; simp; omega
  rename_i tb sa
  refine Stop.mk ⟨rfl, l, xs, fun i ys L => L = (l, .list xs) :: (sa, .raw { cls := .type "slice", data := .fields #[.none, .int 8 tb, .none] }) :: [(c, .cell none)] ∧ ys.length = i ∧ ∃ ns, IntsAre ys ns, rfl, by omega, ?hl, ⟨rfl, rfl, _, .nil⟩, ?hJ, ?E, ?q⟩
  case hl => exact M0
  case hJ =>
   rintro i ys L ⟨rfl, _⟩
   exact M0
  case E =>
   rintro i v ys L a C D hv ⟨rfl, hy, ns, hns⟩ _
   obtain ⟨n1, u1, rfl, _⟩ := hi1.at _ _ hv
   refine A4W ⟨fun _ => ?_, nofun⟩
   refine rAr (Ar.bin (Ar.val (Ec M1 A6B rfl rfl rfl)) Ar.con (Bo.mod (fun _ => (by omega)))) (fun _ => ?_)
   refine And.intro rfl ?_
   dsimp only
   refine' ⟨_, ?s, rfl, ?l, _, hns.append (.cons _ _ .nil)⟩
   case s => exact Sub.refl
   case l => simp [hy]
  case q =>
   rintro ys L D ⟨rfl, hy, ns, hns⟩ _
   refine ⟨_, by exact V2, ?_⟩
   refine A2P (s' := .If _ _ _ _) rfl ?_
   by_cases he : ys.length = 0
   ·refine xIf ?_
    refine A0g (Ar.len (Eb A1n (LawCx.gl L) M0) (En M2) (Ln.list M0 (by omega))) Ar.con rfl Ci.eq ?_
    refine A2s (by fail "c3") ?_
    refine xAs rfl ?_
    refine A8D ?_
    refine A0k Ar.con (fun _ => ?_)
    refine A0d ?_
    refine A0o (by fail "c3") (fun _ => ?_)
    refine kAs V2 ?_
    refine A0a ?_
    rename_i t8 nu
    exact Do.sub (by exact Sub.cons E0 (Sub.cons E3 (Sub.skip (Sub.skip (Sub.skip Sub.refl))))) (q nu _ _ (.cons 8 t8 .nil) (by simp) (by simp))
   ·refine xIf ?_
    refine A0g (Ar.len (Eb A1n (LawCx.gl L) M0) (En M2) (Ln.list M0 (by omega))) Ar.con rfl Ci.eq ?_
    refine A0R (by fail "c3") ?_
    refine A0a ?_
    exact Do.sub (by exact Sub.cons E0 (Sub.cons E2 (Sub.skip (Sub.skip Sub.refl)))) (q D _ _ hns he (by omega))
end
end Mine
namespace Mine
section
variable {Γ : Cx} {led R C : Led} {ks : List (List Stmt)} {rest : List Stmt} {Q : Flow → A0e → Led → Prop} {k : Nat} {w : World}
theorem B9n {sc c nu : Addr} {xs : List Value} {ns : List Int} (hd : Low Γ k) (hk : k ≤ 100) (L : LawCx Γ c) (hw : Γ.w = w) (hi : IntsAre xs ns) (hne : xs.length ≠ 0) (hz : xs.length ≤ 100)
  (q : ∀ (av bv n0 : Int) (ta tb tn : Tok) n nd fa ly la cu t1 t2 m md s sd nw ba kp (t3 t4 t5 t6 t7 t8 t9 : Tok) nl dl wl sl fv fs, 0 ≤ n0 → n0 < 3 → IntsAre fv fs → fv.length ≤ 100 → Ok nw →
   Do Γ (LV (some (.ref sc)) none (some (.ref nu)) (some (.int av ta)) none (some (.ref n)) (some (.ref m)) (some (.ref nl)) (some (.ref dl)) (some (.ref wl)) (some (.ref sl)) none none none none none none none none none none none none none none none)
       ((nd, A3P fa ly la (.int 0 t1) (.int 0 t2) cu) :: (ly, .list []) :: (la, .list []) :: (cu, .list []) :: (md, A5z s (.int 0 t3) (.int 0 t4) (.int 0 t5) t6) :: (sd, A4o nw ba kp (.int 0 t7)) :: (nw, .bdict w []) :: (ba, .list []) ::
    (nl, .list [.int n0 tn]) :: (dl, .list [.bytes (Cmd.opn n0).data.toArray t8]) :: (wl, .list [.bytes [0, 0].toArray t9]) :: (sl, .list [.none]) :: (n, .inst 747 nd) :: (fa, .list fv) :: (m, .inst 1055 md) :: (s, .inst 1132 sd) :: (nu, .list xs) :: (c, .cell (some (.int bv tb))) :: []) (rest :: ks) Q) :
  Do Γ (LV (some (.ref sc)) none (some (.ref nu)) none none none none none none none none none none none none none none none none none none none none none none none) ((nu, .list xs) :: (c, .cell none) :: [])
   ((A3g A0p 2 :: A3g A0p 3 :: A3g A0p 4 :: A3g A0p 5 :: A3g A0p 6 :: A3g A0p 7 :: A3g A0p 8 :: A3g A0p 9 :: rest) :: ks) Q := by
 have hdp := hd
 have hn := L.nd
 dsimp only [LV] at q ⊢
 refine A2P (s' := .Assign [.Name _ _] _ _) rfl ?_
 refine xAs rfl ?_
 refine rC' (Eg A3X (LawCx.gl L) M1) (Callee.fn A8i) rfl rfl ?_
 refine A0m (En M2) ?_
 refine A0k Ar.con (fun _ => ?_)
 refine A0d ?_
 refine B0N hdp (up0 hk rfl) M0 hi hne hz (fun _ _ => ?_)
 refine kAs V3 ?_
 refine A2P (s' := .Assign [.Name _ _] _ _) rfl ?_
 refine xB L rfl ?_
 refine rC' (Eg A3X (LawCx.gl L) M1) (Callee.fn A8i) rfl rfl ?_
 refine A0m (En M2) ?_
 refine A0k Ar.con (fun _ => ?_)
 refine A0d ?_
 refine B0N hdp (up0 hk rfl) M0 hi hne hz (fun _ _ => ?_)
 refine kStC U1 ?_
 refine A2P (s' := .Assign [.Name _ _] _ _) rfl ?_
 refine xAs rfl ?_
 refine rC' (Eg B6F (LawCx.gl L) M2) (Callee.fn (Cls.keeps A4b)) rfl rfl ?_
 refine A0A rfl ?_
 rename_i av ta tb0 bv tb
 have h5 : 0 ≤ av.fmod 5 := Int.fmod_nonneg_of_pos _ (by decide)
 have h6 : av.fmod 5 < 5 := Int.fmod_lt_of_pos _ (by decide)
 obtain ⟨m5, hm5, hm6⟩ : ∃ m : Nat, av.fmod 5 = 0 + (m : Int) ∧ m < 5 := ⟨(av.fmod 5).toNat, by omega, by omega⟩
 have hn1 : 0 ≤ (av.fdiv 320).fmod 3 := Int.fmod_nonneg_of_pos _ (by decide)
 have hn2 : (av.fdiv 320).fmod 3 < 3 := Int.fmod_lt_of_pos _ (by decide)
 refine' B2m (n := m5) (cl := [(.ofString "b", c)]) (x := .ofString "i") (by omega) (fun i ys L => (∃ g1, L = g1 :: [(nu, .list xs), (c, .cell (some (.int bv tb)))]) ∧ ys.length ≤ i ∧ ∃ ns, IntsAre ys ns) ?H ?E ?q (A6Y L.cl rfl) (by kernel_rfl) (by intro _; rfl)
 case H =>
  refine rC' (Eb A4i (LawCx.glo L) M3) Callee.ty rfl rfl ?_
  refine A0k (Ar.bin (Ar.val (En M3)) Ar.con (Bo.mod (fun _ => (by omega)))) (fun _ => ?_)
  refine A0d ?_
  refine A3e (fun _ _ _ => ?_)
  rw [← hm5]
  exact Stop.mk ⟨_, _, _, _, rfl, List.mem_cons_self, rfl, ⟨_, rfl⟩, Nat.le_refl _, _, .nil⟩
 case E =>
  rintro i t ys L' a C D hi5 ⟨⟨g1, rfl⟩, hy, ns1, hns⟩ _
  have hp : (5 : Int) ^ ((0 : Int) + (i : Int)).toNat ≠ 0 ∧ ((5 : Int) ^ ((0 : Int) + (i : Int)).toNat).natAbs < 1073741824 := by
   have : i = 0 ∨ i = 1 ∨ i = 2 ∨ i = 3 ∨ i = 4 := by omega
   rcases this with rfl | rfl | rfl | rfl | rfl <;> decide
  obtain ⟨hp1, hp2⟩ := hp
  refine A4W ⟨fun _ => ?_, nofun⟩
  refine A9Q ?_
  refine A9Q ?_
  refine B3E (c := c) (v := .int bv tb) ?hm rfl rfl (by kernel_rfl) L.kb (by decide) ?_
  case hm => exact M5
  refine rAr (Ar.bin Ar.con (Ar.val (Ec M1 A6B rfl rfl rfl)) (Bo.pow (by omega) (by omega) (by decide))) (fun _ => ?_)
  refine B8f hp1 hp2 (fun _ => ?_)
  refine rAr Ar.con (fun _ => ?_)
  refine B8e (fun _ => (by omega)) (fun _ => ?_)
  refine And.intro rfl ?_
  refine' ⟨_, ?s, ⟨_, rfl⟩, ?l, _, hns.append (.cons _ _ .nil)⟩
  case s => exact Sub.refl
  case l => simp; omega
 case q =>
  rintro ys L' D ⟨⟨g1, rfl⟩, hy, ns1, hns⟩ _
  refine A0m Et ?_
  refine A0d ?_
  refine B9R hdp (up0 hk rfl) M0 hns (by omega) (fun _ _ _ _ _ _ _ _ => ?_)
  refine kAs V5 ?_
  refine A2P (s' := .Assign [.Name _ _] _ _) rfl ?_
  refine xAs rfl ?_
  refine rC' (Eg A9s (LawCx.gl L) M4) (Callee.fn (Cls.keeps A1Z)) rfl rfl ?_
  refine A0A rfl ?_
  refine rC (Eg A8k (LawCx.gl L) M5) (Callee.fn (Cls.keeps A2i)) Evs.nil ?_
  refine B7Y hdp (up0 hk rfl) hw (fun _ _ _ _ _ _ _ => ?_)
  refine A0d ?_
  refine B8b hdp (up0 hk rfl) (fun _ _ _ _ _ _ => ?_)
  refine kAs V6 ?_
  refine A2P (s' := .Assign [.Name _ _] _ _) rfl ?_
  refine xAs rfl ?_
  refine A8D ?_
  refine A0k (Ar.bin (Ar.bin (Ar.val (En M3)) Ar.con (Bo.div (fun _ => (by omega)) (by decide))) Ar.con (Bo.mod (fun _ => (by omega)))) (fun _ => ?_)
  refine A0d ?_
  refine A0o (by fail "c3") (fun _ => ?_)
  refine kAs V7 ?_
  refine A2P (s' := .Assign [.Name _ _] _ _) rfl ?_
  refine xAs rfl ?_
  refine A8D ?_
  refine A0A rfl ?_
  refine B5x rfl ?_
  refine rC' (Eg A3A (LawCx.gl L) M6) (Callee.fn (Cls.keeps A1w)) rfl rfl ?_
  refine A0k Ar.con (fun _ => ?_)
  refine A0k Ar.con (fun _ => ?_)
  refine A0m (Ei (En M7) Ar.con (It.list M0 (by decide) (by decide) rfl (by intro _; with_unfolding_all rfl))) ?_
  refine A0A rfl ?_
  refine A1I (fun _ => ?_)
  refine A0A rfl ?_
  refine A1I (fun _ => ?_)
  refine A0m Eo ?_
  refine A0d ?_
  refine B0L hdp (up0 hk rfl) (fun _ _ => ?_)
  refine kMe (Gm.inst M1 M0 A3u rfl) Evs.nil ?_
  refine B3p hdp (up0 hk rfl) hn M1 M0 (by decide) (by decide) hn1 (by omega) (by decide) (by decide) (fun _ => ?_)
  refine A0d ?_
  refine A0o (by fail "c3") (fun _ => ?_)
  refine kAs V8 ?_
  refine A2P (s' := .Assign [.Name _ _] _ _) rfl ?_
  refine xAs rfl ?_
  refine A8D ?_
  refine A0A rfl ?_
  refine A1I (fun _ => ?_)
  refine A0d ?_
  refine A0o (by fail "c3") (fun _ => ?_)
  refine kAs V9 ?_
  refine A2P (s' := .Assign [.Name _ _] _ _) rfl ?_
  refine xAs rfl ?_
  refine A3r (Evs.cons Eo Evs.nil) ?_
  refine A0o (by decide) (fun _ => ?_)
  refine kAs V10 ?_
  have e : (((((#[].push (Int.toNat 5).toUInt8).push 9).push ((av.fdiv 320).fmod 3).toNat.toUInt8 ++ #[(#[] : Array UInt8).size.toUInt8] ++ #[]) ++ #[(#[] : Array UInt8).size.toUInt8] ++ #[]).push 0 : Array UInt8) = (Cmd.opn ((av.fdiv 320).fmod 3)).data.toArray := by rfl
  rw [e]
  exact Do.sub (by exact Sub.cons E12 (Sub.cons E12 (Sub.cons E12 (Sub.cons E12 (Sub.cons E6 (Sub.cons E7 (Sub.cons E7 (Sub.cons E7 (Sub.cons E5 (Sub.cons E2 (Sub.cons E1 (Sub.cons E0 (Sub.cons E4 (Sub.cons E4 (Sub.cons E2 (Sub.cons E2 (Sub.cons E4 (Sub.cons E4 (Sub.skip (Sub.skip (Sub.skip (Sub.skip Sub.refl)))))))))))))))))))))) (q _ _ _ _ _ _ _ _ _ _ _ _ _ _ _ _ _ _ _ _ _ _ _ _ _ _ _ _ _ _ _ _ _ _ hn1 hn2 hns (by omega) (by assumption))
end
end Mine
namespace Mine
section
variable {Γ : Cx} {vs : A0e} {led R C : Led} {Q : Value → A0e → Led → Prop} {k : Nat}
theorem B4F {o : Option By} {t : Tok} (hd : Low Γ k) (hk : k ≤ 590) (hz : ∀ v, o = some v → v.length < 100) (q : ∀ t, Q (.bytes (may o).toArray t) vs led) : Run Γ vs led (call (.ref 1157) [obl o t]) Q := by
 cases o with
 | none => exact B4G hd hk q
 | some v =>
  have hv := hz v rfl
  refine B4E hd hk (by simp; omega) fun t => ?_
  have e : (#[1, v.toArray.size.toUInt8] ++ v.toArray : Array UInt8) = (may (some v)).toArray := by simp [may]
  rw [e]; exact q t
theorem B4Q (X : Array UInt8) (v : By) : X.push 1 ++ #[v.toArray.size.toUInt8] ++ v.toArray = X ++ (may (some v)).toArray := by
 apply Array.ext'
 simp [may]
theorem B2b (X : Array UInt8) : X.push 0 = X ++ (may none).toArray := by
 apply Array.ext'
 simp [may]
theorem B7N {x xd : Addr} {a n : Int} {ky vl : Array UInt8} {o : Option By} {t1 t2 t3 t4 t5 t6 : Tok} (hd : Low Γ k) (hk : k ≤ 550) (hn : Γ.nd = true) (hx : (x, .inst 873 xd) ∈ led) (hf : (xd, A8o (.int a t1) (.int 9 t2) (.int n t3) (.bytes ky t4) (.bytes vl t5) (obl o t6)) ∈ led)
  (h0 : 0 ≤ a) (h1 : a ≤ 6) (h2 : 0 ≤ n) (h3 : n < 128) (h4 : ky.size < 128) (h5 : vl.size < 128) (h6 : ∀ v, o = some v → v.length < 128)
  (q : ∀ t, Q (.bytes (((((#[].push a.toNat.toUInt8).push 9).push n.toNat.toUInt8) ++ #[ky.size.toUInt8] ++ ky) ++ #[vl.size.toUInt8] ++ vl ++ (may o).toArray) t) vs led) : Run Γ vs led (call (.ref 870) [.ref x]) Q := by
 cases o with
 | none => exact B3p hd hk hn hx hf h0 h1 h2 h3 h4 h5 fun t => by rw [B2b]; exact q t
 | some v => exact B7M hd hk hn hx hf h0 h1 h2 h3 h4 h5 (by have := h6 v rfl; simpa using this) fun t => by rw [B4Q]; exact q t
theorem B0r {o : Option By} {t : Tok} (q : Q (.bool o.isSome) vs led) : Run Γ vs led (compareOp .IsNot (obl o t) .none) Q := by
 cases o with
 | none => exact A6v q
 | some v => exact A8S (fun e => nomatch e) q
theorem B4w {a b : Option By} {t u : Tok} (q : Q (.bool (decide (a ≠ b))) vs led) : Run Γ vs led (compareOp .NotEq (obl a t) (obl b u)) Q := by
 refine B9G ?_
 have e : decide (a.map List.toArray ≠ b.map List.toArray) = decide (a ≠ b) := by
  cases a <;> cases b <;> simp
 rw [e]; exact q
theorem B4R {o : Option By} {v c : By} {t u : Tok} (ho : o = some v) (hz : v.length + c.length ≤ 1000000) (q : ∀ t, Q (.bytes (v ++ c).toArray t) vs led) : Run Γ vs led (binaryOp .Add (obl o t) (.bytes c.toArray u)) Q := by
 subst ho
 exact A7Q hz q
theorem B4e {value slice : Expr} {l : Addr} {X : Int} {u t1 t2 t3 t4 : Tok} (hm : (l, LObj.list [.int 4 t1, .int 1 t2, .int 3 t3, .int 2 t4]) ∈ led) (h0 : 0 ≤ X) (h4 : X < 4) (q : ∀ t, Q (.int (kindOf X) t) vs led)
  (hs : subscripted slice false (.ref l) (.int X u) = operate [.ref l, .int X u] (getItem (.ref l) (.int X u))) : Run Γ vs led (subscriptTail value slice (.ref l) (.int X u)) Q := by
 obtain ⟨t, ht⟩ := B1I (t1 := t1) (t2 := t2) (t3 := t3) (t4 := t4) h0 h4
 exact B2O hm h0 (by omega) ht (q t) hs
theorem B3F {j : Nat} (h : j = 0 ∨ j = 1) : byteArr [97 + ((1 : Int) + (j : Int))] = [Plan.w (j + 1)].toArray := by
 rcases h with rfl | rfl <;> rfl
end
section
variable {Γ : Cx} {led R C : Led} {ks : List (List Stmt)} {rest : List Stmt} {Q : Flow → A0e → Led → Prop} {k : Nat} {w : World}
theorem B6w {sc c nl dl wl sl : Addr} {nu net machine : Option Value} {av bv n0 : Int} {ta tb : Tok} {nv dv wv sv : List Value} (hd : Low Γ k) (hk : k ≤ 100) (L : LawCx Γ c) (hw : Γ.w = w) (hn0 : 0 ≤ n0) (hn3 : n0 < 3)
  (P : Pick [(nl, .list nv), (dl, .list dv), (wl, .list wv), (sl, .list sv)] led R) (hc : (c, .cell (some (.int bv tb))) ∈ R) (H : Is4 (A0D av bv n0) 0 nv dv wv sv)
  (q : ∀ i kind word expect old code fresh nv dv wv sv, Is4 (A0D av bv n0) 2 nv dv wv sv →
   Do Γ (LV (some (.ref sc)) none nu (some (.int av ta)) i net machine (some (.ref nl)) (some (.ref dl)) (some (.ref wl)) (some (.ref sl)) kind word expect old code fresh none none none none none none none none none) ((nl, .list nv) :: (dl, .list dv) :: (wl, .list wv) :: (sl, .list sv) :: R) (rest :: ks) Q) :
  Do Γ (LV (some (.ref sc)) none nu (some (.int av ta)) none net machine (some (.ref nl)) (some (.ref dl)) (some (.ref wl)) (some (.ref sl)) none none none none none none none none none none none none none none none) led ((A3g A0p 10 :: rest) :: ks) Q := by
 have hdp := hd
 have hn := L.nd
 have hok := A7r (av := av) (bv := bv) hn0 hn3
 have d0 : 0 ≤ (bv.fdiv 625).fmod 2 := Int.fmod_nonneg_of_pos _ (by decide)
 have d1 : (bv.fdiv 625).fmod 2 < 2 := Int.fmod_lt_of_pos _ (by decide)
 refine Do.sub P.sub ?_
 refine A2P (s' := .For _ _ _ [] _) rfl ?_
 refine A4f (a := 1) (n := 2) (by decide) (by decide) (by decide) (fun j vs L => ∃ i kind word expect old code fresh nv dv wv sv, vs = LV (some (.ref sc)) none nu (some (.int av ta)) i net machine (some (.ref nl)) (some (.ref dl)) (some (.ref wl)) (some (.ref sl)) kind word expect old code fresh none none none none none none none none none ∧
  (∃ g, L = g :: (nl, .list nv) :: (dl, .list dv) :: (wl, .list wv) :: (sl, .list sv) :: R) ∧ Is4 (A0D av bv n0) j nv dv wv sv) ?H ?turn ?done (by intro _; rfl) (by intro _ _; rfl)
 case H =>
  dsimp only [LV]
  refine rC' (Eb A4i (LawCx.gl L) M3) Callee.ty rfl rfl ?_
  refine A0k Ar.con (fun _ => ?_)
  refine A0k Ar.con (fun _ => ?_)
  refine A0d ?_
  refine A8q (fun _ _ => ?_)
  exact Stop.mk ⟨_, _, _, _, rfl, List.mem_cons_self, _, _, _, _, _, _, _, _, _, _, _, rfl, ⟨_, rfl⟩, H⟩
 case done =>
  rintro vs L' ⟨i, kind, word, expect, old, code, fresh, nv, dv, wv, sv, rfl, ⟨g, rfl⟩, h⟩
  exact Do.sub (.skip .refl) (q _ _ _ _ _ _ _ _ _ _ _ h)
 case turn =>
  rintro j t vs L' it hj ⟨i, kind, word, expect, old, code, fresh, nv, dv, wv, sv, rfl, ⟨g, rfl⟩, h⟩
  have hjz : j = 0 ∨ j = 1 := by omega
  have l1 := h.ln; have l2 := h.ld; have l3 := h.lw; have l4 := h.ls
  obtain ⟨⟨u1, h1⟩, ⟨u2, h2⟩, ⟨u3, h3⟩, ⟨u4, h4⟩⟩ := h.at' j (Nat.le_refl _)
  have h1' := B0k l1 h1
  have h4' := B0k l4 h4
  have hnb := Plan.lt10 hok (i := j) (by omega)
  have hsl := (A0D av bv n0).st_len j
  have hml := A8I hsl
  have hj1 : ((1 : Int) + (j : Int) - 1).toNat = j := by omega
  have hp4 : (4 : Int) ^ ((1 : Int) + (j : Int) - 1).toNat ≠ 0 ∧ ((4 : Int) ^ ((1 : Int) + (j : Int) - 1).toNat).natAbs < 1073741824 := by
   rw [hj1]; rcases hjz with rfl | rfl <;> decide
  have hp2 : (2 : Int) ^ ((1 : Int) + (j : Int) - 1).toNat ≠ 0 ∧ ((2 : Int) ^ ((1 : Int) + (j : Int) - 1).toNat).natAbs < 1073741824 := by
   rw [hj1]; rcases hjz with rfl | rfl <;> decide
  obtain ⟨hp41, hp42⟩ := hp4
  obtain ⟨hp21, hp22⟩ := hp2
  generalize hX : ((av.fdiv 5).fdiv (4 ^ ((1 : Int) + (j : Int) - 1).toNat)).fmod 4 = X
  have hX0 : 0 ≤ X := by rw [← hX]; exact Int.fmod_nonneg_of_pos _ (by decide)
  have hX4 : X < 4 := by rw [← hX]; exact Int.fmod_lt_of_pos _ (by decide)
  have hkX : (A0D av bv n0).kd (j + 1) = kindOf X := by rw [← hX, hj1]; rfl
  have hbx : (A0D av bv n0).ex (j + 1) = decide (((av.fdiv 80).fdiv (2 ^ ((1 : Int) + (j : Int) - 1).toNat)).fmod 2 = 1) := by rw [hj1]; rfl
  have hD : ((((#[].push ((A0D av bv n0).kd (j + 1)).toNat.toUInt8).push 9).push ((A0D av bv n0).n j + 1 + (bv.fdiv 625).fmod 2).toNat.toUInt8) ++ #[(#[107] : Array UInt8).size.toUInt8] ++ #[107]) ++ #[(#[Plan.w (j + 1)] : Array UInt8).size.toUInt8] ++ #[Plan.w (j + 1)] ++ (may ((A0D av bv n0).cmd (j + 1)).exp).toArray = ((A0D av bv n0).cmd (j + 1)).data.toArray := by
   show _ = (Cmd.op ((A0D av bv n0).kd (j + 1)) ((A0D av bv n0).n (j + 1)) (Plan.w (j + 1)) ((A0D av bv n0).ex (j + 1))).data.toArray
   show _ ++ (may (if (A0D av bv n0).ex (j + 1) then some [98] else none)).toArray = _
   rw [A5J]
   cases (A0D av bv n0).ex (j + 1) <;> rfl
  have hE : ((A0D av bv n0).cmd (j + 1)).exp = if decide (((av.fdiv 80).fdiv (2 ^ ((1 : Int) + (j : Int) - 1).toNat)).fmod 2 = 1) then some [98] else none := by rw [← hbx]; rfl
  have hEl : ∀ v, ((A0D av bv n0).cmd (j + 1)).exp = some v → v.length < 100 := fun v hv => by
   rw [hE] at hv
   split at hv
   ·cases hv; decide
   ·cases hv
  have hkd := hok.kd (j + 1)
  have hWt : ∀ code : Int, ((A0D av bv n0).kd (j + 1) = 3 ∧ (A0D av bv n0).st j ≠ ((A0D av bv n0).cmd (j + 1)).exp → code = 1) ∧ (¬ ((A0D av bv n0).kd (j + 1) = 3 ∧ (A0D av bv n0).st j ≠ ((A0D av bv n0).cmd (j + 1)).exp) → code = 0) → byteArr [code] ++ (may ((A0D av bv n0).st j)).toArray = ((A0D av bv n0).want (j + 1)).toArray :=
   fun code hc => B1o (by omega) hc
  have hSt : (A0D av bv n0).st (j + 1) = A5B ((A0D av bv n0).kd (j + 1)) [Plan.w (j + 1)] ((A0D av bv n0).cmd (j + 1)).exp ((A0D av bv n0).st j) := rfl
  generalize hEE : ((A0D av bv n0).cmd (j + 1)).exp = E at hD hE hEl hWt hSt
  generalize hK : (A0D av bv n0).kd (j + 1) = K at hkd hkX hD hWt hSt
  have hK0 : 0 ≤ K := by omega
  have hK6 : K ≤ 6 := by omega
  have hmay : (may ((A0D av bv n0).st j)).length ≤ 10 := by omega
  have hsl' : ∀ v, (A0D av bv n0).st j = some v → v.length < 100 := fun v hv => by have := hsl v hv; omega
  dsimp only [LV]
  refine' A0b ?a ?_
  case a => exact V4
  refine Do.at 4 (fun vs L => ∃ tK tW tE, vs = LV (some (.ref sc)) none nu (some (.int av ta)) (some (.int (1 + j) t)) net machine (some (.ref nl)) (some (.ref dl)) (some (.ref wl)) (some (.ref sl)) (some (.int K tK)) (some (.bytes #[Plan.w (j + 1)] tW)) (some (obl E tE)) old code fresh none none none none none none none none none ∧ Sub ((it, itR 1 2 (j + 1)) :: g :: (nl, .list nv) :: (dl, .list dv) :: (wl, .list wv) :: (sl, .list sv) :: R) L) ?A ?B
  case A =>
   show Do Γ _ _ [[_, _, _, _]] _
   refine xAs rfl ?_
   refine rSub ?_
   refine rC (Eg A6P (LawCx.gl L) M7) (Callee.fn B4c) Evs.nil ?_
   refine B7X hdp (up0 hk rfl) (fun _ _ _ _ _ => ?_)
   refine rAr (Ar.bin (Ar.bin (Ar.bin (Ar.val (En M3)) Ar.con (Bo.div (fun _ => (by omega)) (by decide))) (Ar.bin Ar.con (Ar.bin (Ar.val (En M4)) Ar.con Bo.sub) (Bo.pow (by omega) (by omega) (by decide))) (Bo.div hp41 hp42)) Ar.con (Bo.mod (fun _ => (by omega)))) (fun _ => ?_)
   rw [hX]
   refine' B4e ?hm hX0 hX4 ?_ (by with_unfolding_all rfl)
   case hm => exact M0
   intro tK
   rw [← hkX]
   refine kAs V11 ?_
   refine xAs rfl ?_
   refine rC' (Eb A2f (LawCx.gl L) M8) Callee.ty rfl rfl ?_
   refine A0A rfl ?_
   refine A8D ?_
   refine A0k (Ar.bin Ar.con (Ar.val (En M4)) Bo.add) (fun _ => ?_)
   refine A0d ?_
   refine A0o (by fail "c3") (fun _ => ?_)
   refine A0d ?_
   refine A2z M0 (PyProof.Rows.IntsAre.cons _ _ PyProof.Rows.IntsAre.nil) (by (simp only [List.mem_cons, List.not_mem_nil, or_false, forall_eq_or_imp, forall_eq]; omega)) (by fail "c1") (fun _ => ?_)
   refine kAs V12 ?_
   refine A4Y Eo rfl V13 ?_
   refine xIf ?_
   refine A0g (Ar.bin (Ar.bin (Ar.bin (Ar.val (En M3)) Ar.con (Bo.div (fun _ => (by omega)) (by decide))) (Ar.bin Ar.con (Ar.bin (Ar.val (En M4)) Ar.con Bo.sub) (Bo.pow (by omega) (by omega) (by decide))) (Bo.div hp21 hp22)) Ar.con (Bo.mod (fun _ => (by omega)))) Ar.con rfl Ci.eq ?_
   rw [B3F hjz]
   by_cases hb : ((av.fdiv 80).fdiv (2 ^ ((1 : Int) + (j : Int) - 1).toNat)).fmod 2 = 1
   ·have hEb : E = some [98] := by rw [hE, decide_eq_true hb]; rfl
    subst hEb
    refine A2s (by fail "c3") ?_
    refine xAs rfl ?_
    refine A1I (fun _ => ?_)
    refine kAs V13 ?_
    refine A0a ?_
    refine A0a ?_
    refine A0n ?_
    dsimp only
    exact ⟨_, _, _, rfl, by exact Sub.cons E2 (Sub.cons E2 (Sub.cons E2 (Sub.cons E2 (Sub.cons E2 (Sub.cons E2 (Sub.skip (Sub.skip Sub.refl)))))))⟩
   ·have hEb : E = none := by rw [hE, decide_eq_false hb]; rfl
    subst hEb
    refine A0R (by fail "c3") ?_
    refine A0a ?_
    refine A0a ?_
    refine A0n ?_
    dsimp only
    exact ⟨_, _, 0, rfl, by exact Sub.cons E2 (Sub.cons E2 (Sub.cons E2 (Sub.cons E2 (Sub.cons E2 (Sub.cons E2 (Sub.skip (Sub.skip Sub.refl)))))))⟩
  case B =>
   rintro vs L ⟨tK, tW, tE, rfl, sb⟩
   refine Do.sub sb ?_
   show Do Γ _ _ [[_, _, _, _, _, _, _, _]] _
   dsimp only [LV]
   refine Do.at 6 (fun vs L => ∃ (code Nn : Int) (X : Array UInt8) (tO tC tF tN tD : Tok), vs = LV (some (.ref sc)) none nu (some (.int av ta)) (some (.int (1 + j) t)) net machine (some (.ref nl)) (some (.ref dl)) (some (.ref wl)) (some (.ref sl)) (some (.int K tK)) (some (.bytes #[Plan.w (j + 1)] tW)) (some (obl E tE)) (some (obl ((A0D av bv n0).st j) tO)) (some (.int code tC)) (some (obl ((A0D av bv n0).st (j + 1)) tF)) none none none none none none none none none ∧
    Nn = (A0D av bv n0).n j + 1 + (bv.fdiv 625).fmod 2 ∧ X = ((A0D av bv n0).cmd (j + 1)).data.toArray ∧ ((K = 3 ∧ (A0D av bv n0).st j ≠ E → code = 1) ∧ (¬ (K = 3 ∧ (A0D av bv n0).st j ≠ E) → code = 0)) ∧
    Sub ((it, itR 1 2 (j + 1)) :: (nl, .list (nv ++ [.int Nn tN])) :: (dl, .list (dv ++ [.bytes X tD])) :: (wl, .list wv) :: (sl, .list sv) :: R) L) ?C ?D
   case C =>
    show Do Γ _ _ [[_, _, _, _, _, _]] _
    have hEl2 : ∀ v, E = some v → v.length < 128 := fun v hv => Nat.lt_trans (hEl v hv) (by decide)
    refine A1A rfl ?_
    refine rM' (En M7) (Gm.app M2) rfl rfl rfl ?_
    refine A0k (Ar.bin (Ar.bin (Ar.val (Ei (En M7) (Ar.neg Ar.con) (It.neg M2 (by decide) (by omega) (by omega) h1' (by intro _; with_unfolding_all rfl)))) Ar.con Bo.add) (Ar.bin (Ar.bin (Ar.val (El (by assumption) (N6 hc))) Ar.con (Bo.div (fun _ => (by omega)) (by decide))) Ar.con (Bo.mod (fun _ => (by omega)))) Bo.add) (fun _ => ?_)
    refine A0d ?_
    refine A0y U2 (by omega) ?_
    refine A1B ?_
    refine A1A rfl ?_
    refine rM' (En M8) (Gm.app M3) rfl rfl rfl ?_
    refine A0A rfl ?_
    refine B5x rfl ?_
    refine rC' (Eg A3A (LawCx.gl (by assumption)) M6) (Callee.fn (Cls.keeps A1w)) rfl rfl ?_
    refine A0m (En M11) ?_
    refine A0k Ar.con (fun _ => ?_)
    refine A0m (Ei (En M7) (Ar.neg Ar.con) (It.neg M2 (by decide) (by fail "c1") (by fail "c1") B0j (by intro _; with_unfolding_all rfl))) ?_
    refine A0A rfl ?_
    refine A1I (fun _ => ?_)
    refine A0m (En M12) ?_
    refine A0m (En M13) ?_
    refine A0d ?_
    refine B0L hdp (up0 hk rfl) (fun _ _ => ?_)
    refine kMe (Gm.inst M1 M0 A3u rfl) Evs.nil ?_
    refine B7N hdp (up0 hk rfl) hn M1 M0 hK0 hK6 (by omega) (by omega) (by decide) (by fail "c1") hEl2 (fun _ => ?_)
    refine A0d ?_
    refine A0y U5 (by omega) ?_
    refine A1B ?_
    refine A4Y (Ei (En M10) (Ar.neg Ar.con) (It.neg M7 (by decide) (by omega) (by omega) h4' (by intro _; with_unfolding_all rfl))) rfl V14 ?_
    refine xAs rfl ?_
    refine rAr Ar.con (fun _ => ?_)
    refine kAs V15 ?_
    refine A4Y (En M12) rfl V16 ?_
    refine xIf ?_
    refine A0g (Ar.val (En M11)) Ar.con rfl Ci.eq ?_
    rcases hkd with rfl | rfl | rfl | rfl
    ·refine A0R rfl ?_
     refine xIf ?_
     refine A3K ?_
     refine A0g (Ar.val (En M11)) Ar.con rfl Ci.eq ?_
     refine A1D rfl ?_
     refine A0R rfl ?_
     refine xIf ?_
     refine A3K ?_
     refine A0g (Ar.val (En M11)) Ar.con rfl Ci.eq ?_
     refine A1D rfl ?_
     refine A0R rfl ?_
     refine A0a ?_
     refine A0a ?_
     refine A0a ?_
     refine A0a ?_
     refine A0n ?_
     dsimp only
     exact ⟨0, _, _, _, _, _, _, _, by rw [hSt]; rfl, rfl, hD, ⟨fun h => absurd h.1 (by decide), fun _ => rfl⟩, by exact Sub.cons E2 (Sub.cons E3 (Sub.cons E3 (Sub.cons E3 (Sub.cons E3 (Sub.skip (Sub.skip (Sub.skip Sub.refl)))))))⟩
    ·refine A2s rfl ?_
     refine A4Y Eo rfl V16 ?_
     refine A0a ?_
     refine A0a ?_
     refine A0n ?_
     dsimp only
     exact ⟨0, _, _, _, _, 0, _, _, by rw [hSt]; rfl, rfl, hD, ⟨fun h => absurd h.1 (by decide), fun _ => rfl⟩, by exact Sub.cons E2 (Sub.cons E3 (Sub.cons E3 (Sub.cons E3 (Sub.cons E3 (Sub.skip (Sub.skip (Sub.skip Sub.refl)))))))⟩
    ·refine A0R rfl ?_
     refine xIf ?_
     refine A3K ?_
     refine A0g (Ar.val (En M11)) Ar.con rfl Ci.eq ?_
     refine A3N rfl ?_
     refine A3K ?_
     refine A4I (En M14) rfl ?_
     refine rE (En M13) ?_
     refine B4w ?_
     by_cases ho : (A0D av bv n0).st j = E
     ·rw [decide_eq_false (not_not_intro ho)]
      refine A0c ?_
      refine A1D rfl ?_
      refine A0R rfl ?_
      refine xIf ?_
      refine A3K ?_
      refine A0g (Ar.val (En M11)) Ar.con rfl Ci.eq ?_
      refine A1D rfl ?_
      refine A0R rfl ?_
      refine A0a ?_
      refine A0a ?_
      refine A0a ?_
      refine A0a ?_
      refine A0n ?_
      dsimp only
      exact ⟨0, _, _, _, _, _, _, _, by rw [hSt, ho]; unfold A5B; rw [if_neg (by decide), if_neg (fun h => h.2 rfl)]; rfl, rfl, hD, ⟨fun h => absurd ho h.2, fun _ => rfl⟩, by exact Sub.cons E2 (Sub.cons E3 (Sub.cons E3 (Sub.cons E3 (Sub.cons E3 (Sub.skip (Sub.skip (Sub.skip Sub.refl)))))))⟩
     ·rw [decide_eq_true ho]
      refine A0c ?_
      refine A3N rfl ?_
      refine A2I ?_
      refine A2s rfl ?_
      refine xAs rfl ?_
      refine rAr Ar.con (fun _ => ?_)
      refine kAs V15 ?_
      refine A4Y (En M14) rfl V16 ?_
      refine A0a ?_
      refine A0a ?_
      refine A0a ?_
      refine A0n ?_
      dsimp only
      exact ⟨1, _, _, _, _, _, _, _, by rw [hSt]; unfold A5B; rw [if_neg (by decide), if_pos ⟨rfl, ho⟩], rfl, hD, ⟨fun _ => rfl, fun h => absurd ⟨rfl, ho⟩ h⟩, by exact Sub.cons E2 (Sub.cons E3 (Sub.cons E3 (Sub.cons E3 (Sub.cons E3 (Sub.skip (Sub.skip (Sub.skip Sub.refl)))))))⟩
    ·refine A0R rfl ?_
     refine xIf ?_
     refine A3K ?_
     refine A0g (Ar.val (En M11)) Ar.con rfl Ci.eq ?_
     refine A1D rfl ?_
     refine A0R rfl ?_
     refine xIf ?_
     refine A3K ?_
     refine A0g (Ar.val (En M11)) Ar.con rfl Ci.eq ?_
     refine A3N rfl ?_
     refine A3K ?_
     refine A4I (En M14) rfl ?_
     refine rE Eo ?_
     refine B0r ?_
     by_cases hq : ((A0D av bv n0).st j).isSome = true
     ·obtain ⟨v, ho⟩ := Option.isSome_iff_exists.mp hq
      have hvl := hsl' v ho
      rw [hq]
      refine A0c ?_
      refine A3N rfl ?_
      refine A2I ?_
      refine A2s rfl ?_
      refine xAs rfl ?_
      refine B1v (En M14) (En M12) ?_
      refine B4R (c := [Plan.w (j + 1)]) ho (by simp; omega) fun t => ?_
      refine kAs V16 ?_
      refine A0a ?_
      refine A0a ?_
      refine A0a ?_
      refine A0a ?_
      refine A0n ?_
      dsimp only
      exact ⟨0, _, _, _, _, _, _, _, by rw [hSt, ho]; rfl, rfl, hD, ⟨fun h => absurd h.1 (by decide), fun _ => rfl⟩, by exact Sub.cons E2 (Sub.cons E3 (Sub.cons E3 (Sub.cons E3 (Sub.cons E3 (Sub.skip (Sub.skip (Sub.skip Sub.refl)))))))⟩
     ·have ho : (A0D av bv n0).st j = none := by simpa using hq
      rw [Bool.not_eq_true] at hq
      rw [hq]
      refine A0c ?_
      refine A1D rfl ?_
      refine A0R rfl ?_
      refine A0a ?_
      refine A0a ?_
      refine A0a ?_
      refine A0a ?_
      refine A0n ?_
      dsimp only
      exact ⟨0, _, _, _, _, _, _, _, by rw [hSt, ho]; rfl, rfl, hD, ⟨fun h => absurd h.1 (by decide), fun _ => rfl⟩, by exact Sub.cons E2 (Sub.cons E3 (Sub.cons E3 (Sub.cons E3 (Sub.cons E3 (Sub.skip (Sub.skip (Sub.skip Sub.refl)))))))⟩
   case D =>
    rintro vs L ⟨code, Nn, X9, tO, tC, tF, tN, tD, rfl, rfl, hX9, hcode, sb2⟩
    refine Do.sub sb2 ?_
    show Do Γ _ _ [[_, _]] _
    dsimp only [LV]
    have hc0 : 0 ≤ code := by
     by_cases hh : K = 3 ∧ (A0D av bv n0).st j ≠ E
     ·rw [hcode.1 hh]; decide
     ·rw [hcode.2 hh]; decide
    have hc1 : code < 256 := by
     by_cases hh : K = 3 ∧ (A0D av bv n0).st j ≠ E
     ·rw [hcode.1 hh]; decide
     ·rw [hcode.2 hh]; decide
    have hW := hWt code hcode
    refine A1A rfl ?_
    refine rM' (En M9) (Gm.app M3) rfl rfl rfl ?_
    refine A0A rfl ?_
    refine A9Q ?_
    refine rC' (Eb A2f (LawCx.gl (by assumption)) M8) Callee.ty rfl rfl ?_
    refine A0A rfl ?_
    refine A3r (Evs.cons (En M15) Evs.nil) ?_
    refine A0o (by fail "c3") (fun _ => ?_)
    refine A0d ?_
    refine A2z M0 (PyProof.Rows.IntsAre.cons _ _ PyProof.Rows.IntsAre.nil) (by (simp only [List.mem_cons, List.not_mem_nil, or_false, forall_eq_or_imp, forall_eq]; omega)) (by fail "c1") (fun _ => ?_)
    refine rC (Eg A6O (LawCx.gl (by assumption)) M9) (Callee.fn B4b) (Evs.cons (En M14) Evs.nil) ?_
    refine B4F hdp (up0 hk rfl) hsl' (fun _ => ?_)
    refine B0Q (by fail "c1") (fun _ => ?_)
    refine A0d ?_
    refine A0y U4 (by omega) ?_
    refine A1B ?_
    refine A1A rfl ?_
    refine rM (En M10) (Gm.app M5) (Evs.cons (En M16) Evs.nil) rfl ?_
    refine A0y U5 (by omega) ?_
    refine A1B ?_
    refine A0a ?_
    refine A0n ?_
    dsimp only
    exact ⟨_, by exact Sub.cons E1 Sub.refl, _, _, _, _, _, _, _, _, _, _, _, rfl, ⟨_, rfl⟩, Is4.snoc h (A5J j).symm hX9 hW rfl⟩
end
end Mine
namespace Mine
noncomputable def MsgOk (P : Plan) (p hi : Int) : Msg → Prop
 | .req num data => ∃ i : Nat, (i : Int) ≤ p ∧ i ≤ 2 ∧ num = P.n i ∧ data = (P.cmd i).data
 | .ans num ctx => ∃ i : Nat, (i : Int) ≤ hi ∧ num = P.n i ∧ (ctx = P.want i ∨ ((i : Int) < hi ∧ ctx = [3, 0]))
theorem MsgOk.mono {P : Plan} {p hi p' hi' : Int} {m : Msg} (h : MsgOk P p hi m) (hp : p ≤ p') (hh : hi ≤ hi') : MsgOk P p' hi' m := by
 cases m with
 | req num data => obtain ⟨i, h1, h2, h3, h4⟩ := h; exact ⟨i, by omega, h2, h3, h4⟩
 | ans num ctx => obtain ⟨i, h1, h2, h3⟩ := h; exact ⟨i, by omega, h2, h3.imp id fun h => ⟨by omega, h.2⟩⟩
structure Inv (P : Plan) (R : Led) (b : Nat) (lv av cv bv : List Value) (rows late : List Row) (cuts : List (Int × Int)) (p hi c tm : Int) (kvs : List (By × Value)) : Prop where
 rl : RowsIn R lv rows
 ra : RowsIn R av late
 pc : Pairs R cv cuts
 ok : ∀ x ∈ rows ++ late, MsgOk P p hi x.msg
 len : rows.length + late.length ≤ 2 * b
 clen : cv.length ≤ 2 * b
 p0 : 0 ≤ p
 p3 : p ≤ 3
 hp : hi ≤ p
 ph : p ≤ hi + 1
 h2 : hi ≤ 2
 hm : -1 ≤ hi
 c0 : 0 ≤ c
 cb : c ≤ b
 tab : ∃ tab, TabAt P hi tab ∧ KvIs kvs tab
 bl : bv.length ≤ b
 tm1 : 0 ≤ hi → tm = 1
theorem Inv.b {P : Plan} {R : Led} {b b' : Nat} {lv av cv bv : List Value} {rows late : List Row} {cuts : List (Int × Int)} {p hi c tm : Int} {kvs : List (By × Value)} (h : Inv P R b lv av cv bv rows late cuts p hi c tm kvs) (hb : b ≤ b') : Inv P R b' lv av cv bv rows late cuts p hi c tm kvs :=
 { h with len := by have := h.len; omega, clen := by have := h.clen; omega, cb := by have := h.cb; omega, bl := by have := h.bl; omega }
theorem Inv.grow {P : Plan} {R R' : Led} {b : Nat} {lv av cv bv : List Value} {rows late : List Row} {cuts : List (Int × Int)} {p hi c tm : Int} {kvs : List (By × Value)} (h : Inv P R b lv av cv bv rows late cuts p hi c tm kvs) (g : Grow R R') : Inv P R' b lv av cv bv rows late cuts p hi c tm kvs :=
 { h with rl := h.rl.mono g, ra := h.ra.mono g, pc := h.pc.grow g }
noncomputable def A5a (P : Plan) : List Int := [P.n 0, P.n 1, P.n 2]
theorem len3 : {l : List Value} → l.length = 3 → ∃ a b c, l = [a, b, c]
 | [], h | [_], h | [_, _], h | _ :: _ :: _ :: _ :: _, h => nomatch h
 | [a, b, c], _ => ⟨a, b, c, rfl⟩
theorem Is4.ints {P : Plan} {nv dv wv sv : List Value} (h : Is4 P 2 nv dv wv sv) : IntsAre nv (A5a P) := by
 have l := h.ln
 obtain ⟨⟨t0, h0⟩, _⟩ := h.at' 0 (by decide)
 obtain ⟨⟨t1, h1⟩, _⟩ := h.at' 1 (by decide)
 obtain ⟨⟨t2, h2⟩, _⟩ := h.at' 2 (by decide)
 obtain ⟨a, b, c, rfl⟩ := len3 l
 simp only [List.getElem?_cons_zero, List.getElem?_cons_succ, Option.some.injEq] at h0 h1 h2
 subst h0 h1 h2
 exact .cons _ _ (.cons _ _ (.cons _ _ .nil))
theorem A6F {x : Int} (h0 : 0 ≤ x) (h1 : x < 10) : PyData.weight (.int x) ≤ 100 := by
 obtain ⟨n, rfl⟩ := Int.eq_ofNat_of_zero_le h0
 have : n < 10 := Int.ofNat_lt.mp h1
 clear h0 h1
 revert n
 decide
theorem A5F {P : Plan} (hP : P.Ok) : PyData.layable0 (.list ((A5a P).map .int)) = true := by
 have a := P.lt10 hP (i := 0) (by decide)
 have b := P.lt10 hP (i := 1) (by decide)
 have c := P.lt10 hP (i := 2) (by decide)
 have wa := A6F a.1 a.2
 have wb := A6F b.1 b.2
 have wc := A6F c.1 c.2
 have hw : PyData.weight (.list ((A5a P).map .int)) ≤ 2 ^ 20 := by
  simp only [A5a, List.map_cons, List.map_nil]
  rw [PyData.weight, PyData.weightAll, PyData.weightAll, PyData.weightAll, PyData.weightAll]
  omega
 unfold PyData.layable0
 rw [decide_eq_true hw]
 rfl
theorem A6H (P : Plan) {i : Nat} (h : i ≤ 2) : P.n i ∈ A5a P := by
 have : i = 0 ∨ i = 1 ∨ i = 2 := by omega
 rcases this with rfl | rfl | rfl <;> simp [A5a]
theorem A7n {P : Plan} (hP : P.Ok) {i : Nat} (h : i ≤ 2) : (A5a P).idxOf (P.n i) = i := by
 obtain ⟨h1, h2⟩ := hP.up
 have : i = 0 ∨ i = 1 ∨ i = 2 := by omega
 rcases this with rfl | rfl | rfl
 ·simp [A5a]
 ·have e1 : (P.n 0 == P.n 1) = false := by simp; omega
  simp [A5a, List.idxOf_cons, e1]
 ·have e1 : (P.n 0 == P.n 2) = false := by simp; omega
  have e2 : (P.n 1 == P.n 2) = false := by simp; omega
  simp [A5a, List.idxOf_cons, e1, e2]
theorem B0w {n : Nat} (h : 0 < n) : ((-1 : Int).fmod n).toNat = n - 1 := by
 have h1 : (-1 : Int).fmod n = n - 1 := by
  rw [Int.fmod_eq_emod_of_nonneg _ (by omega)]
  have h2 : (-1 : Int) % n = ((n : Int) - 1) % n := by rw [show (-1 : Int) = ((n : Int) - 1) + n * (-1) from by omega, Int.add_mul_emod_self_left]
  rw [h2, Int.emod_eq_of_lt (by omega) (by omega)]
 omega
theorem A9I {n : Nat} : ((0 : Int).fmod n).toNat = 0 := by simp
structure Fix (R : Led) (n nd fa m md s sd nl dl wl sl nu : Addr) (fv nv dv wv sv xs : List Value) : Prop where
 hn : (n, LObj.inst 747 nd) ∈ R
 hfa : (fa, LObj.list fv) ∈ R
 hm : (m, LObj.inst 1055 md) ∈ R
 hs : (s, LObj.inst 1132 sd) ∈ R
 hnl : (nl, LObj.list nv) ∈ R
 hdl : (dl, LObj.list dv) ∈ R
 hwl : (wl, LObj.list wv) ∈ R
 hsl : (sl, LObj.list sv) ∈ R
 hnu : (nu, LObj.list xs) ∈ R
theorem Fix.grow {R R' : Led} {n nd fa m md s sd nl dl wl sl nu : Addr} {fv nv dv wv sv xs : List Value} (h : Fix R n nd fa m md s sd nl dl wl sl nu fv nv dv wv sv xs) (g : Grow R R') : Fix R' n nd fa m md s sd nl dl wl sl nu fv nv dv wv sv xs :=
 ⟨g _ h.hn, g _ h.hfa, g _ h.hm, g _ h.hs, g _ h.hnl, g _ h.hdl, g _ h.hwl, g _ h.hsl, g _ h.hnu⟩
theorem Inv.sent {P : Plan} {R R' : Led} {b : Nat} {lv av cv bv lv' av' fv : List Value} {rows late rows' late' : List Row} {cuts : List (Int × Int)} {p hi c tm lo lo' : Int} {kvs : List (By × Value)} {M : Msg} (I : Inv P R b lv av cv bv rows late cuts p hi c tm kvs)
  (g : Grow R R') (h1 : RowsIn R' lv' rows') (h2 : RowsIn R' av' late') (h3 : Sent rows late rows' late' M cuts fv lo lo') (hM : MsgOk P p hi M) : Inv P R' (b + 1) lv' av' cv bv rows' late' cuts p hi c tm kvs := by
 have hlen := h3.len
 have hok : ∀ x ∈ rows' ++ late', MsgOk P p hi x.msg := fun x hx => by
  rcases h3.old x hx with h | h
  ·exact I.ok x h
  ·rw [h]; exact hM
 have h4 := I.len
 have h5 := I.clen
 have h6 := I.cb
 have h7 := I.bl
 exact { I with rl := h1, ra := h2, pc := I.pc.grow g, ok := hok, len := by omega, clen := by omega, cb := by omega, bl := by omega }
theorem Inv.taken {P : Plan} {R : Led} {b : Nat} {lv av cv bv lv' : List Value} {rows late rows' : List Row} {cuts : List (Int × Int)} {p hi c tm : Int} {kvs : List (By × Value)} (I : Inv P R b lv av cv bv rows late cuts p hi c tm kvs)
  (h1 : RowsIn R lv' rows') (hs : ∀ x ∈ rows', x ∈ rows) (hl : rows'.length ≤ rows.length) : Inv P R b lv' av cv bv rows' late cuts p hi c tm kvs := by
 have hok : ∀ x ∈ rows' ++ late, MsgOk P p hi x.msg := fun x hx => by
  rcases List.mem_append.1 hx with h | h
  ·exact I.ok x (List.mem_append_left _ (hs x h))
  ·exact I.ok x (List.mem_append_right _ h)
 have h4 := I.len
 exact { I with rl := h1, ok := hok, len := by omega }
theorem Inv.cuts {P : Plan} {R R' : Led} {b : Nat} {lv av cv bv cv' : List Value} {rows late : List Row} {cuts cuts' : List (Int × Int)} {p hi c tm : Int} {kvs : List (By × Value)} (I : Inv P R b lv av cv bv rows late cuts p hi c tm kvs)
  (g : Grow R R') (h : Pairs R' cv' cuts') (hl : cv'.length ≤ cv.length + 2) : Inv P R' (b + 1) lv av cv' bv rows late cuts' p hi c tm kvs := by
 have h4 := I.len
 have h5 := I.clen
 have h6 := I.cb
 have h7 := I.bl
 exact { I with rl := I.rl.mono g, ra := I.ra.mono g, pc := h, len := by omega, clen := by omega, cb := by omega, bl := by omega }
theorem Inv.peace {P : Plan} {R R' : Led} {b : Nat} {lv av cv bv lv' : List Value} {rows late rows' : List Row} {cuts : List (Int × Int)} {p hi c tm : Int} {kvs : List (By × Value)} (I : Inv P R b lv av cv bv rows late cuts p hi c tm kvs)
  (h1 : RowsIn R' lv' rows') (hs : ∀ x ∈ rows', x ∈ rows ++ late) (hl : rows'.length ≤ (rows ++ late).length) : Inv P R' b lv' [] [] bv rows' [] [] p hi c tm kvs := by
 have h4 := I.len
 rw [List.length_append] at hl
 exact { I with rl := h1, ra := .nil, pc := .nil, ok := fun x hx => I.ok x (hs x (by simpa using hx)), len := by simp; omega, clen := by simp }
theorem Msg.to2 {m : Msg} (h : m.to ≠ 1) : m.to = 2 := by
 cases m with
 | req _ _ => exact absurd rfl h
 | ans _ _ => rfl
theorem A7k {Z : Led} {lv lv' : List Value} {rows rows' : List Row} {x : Row} {v : Value} {lo lo' : Int} (h : TakeRes Z (-1) lv lv' (rows ++ [x]) rows' [] v lo lo') : RowsIn Z lv' rows ∧ ∃ m, v = .ref m ∧ MsgIn Z m x.msg := by
 have e : ((-1 : Int).fmod (rows ++ [x]).length).toNat = rows.length := by
  rw [B0w (by simp)]; simp
 have hr := h.rin
 rcases h.res with ⟨h1, _⟩ | ⟨row, h1, h2, h3⟩
 ·exact absurd h1 (by simp)
 ·rw [e] at h1 h2
  rw [List.getElem?_append_right (Nat.le_refl _)] at h1
  simp only [Nat.sub_self, List.getElem?_cons_zero, Option.some.injEq] at h1
  subst h1
  rw [List.eraseIdx_append_of_length_le (Nat.le_refl _)] at h2
  simp only [Nat.sub_self, List.eraseIdx_cons_zero, List.append_nil] at h2
  rw [h2] at hr
  rcases h3 with ⟨h3, _⟩ | ⟨_, _, h3⟩
  ·cases h3
  ·exact ⟨hr, h3⟩
theorem A9d {Z : Led} {lv lv' : List Value} {rows rows' : List Row} {x : Row} {v : Value} {lo lo' : Int} (h : TakeRes Z 0 lv lv' (x :: rows) rows' [] v lo lo') : RowsIn Z lv' rows ∧ ∃ m, v = .ref m ∧ MsgIn Z m x.msg := by
 have hr := h.rin
 rcases h.res with ⟨h1, _⟩ | ⟨row, h1, h2, h3⟩
 ·exact absurd h1 (by simp)
 ·rw [A9I] at h1 h2
  simp only [List.getElem?_cons_zero, Option.some.injEq] at h1
  subst h1
  simp only [List.eraseIdx_cons_zero] at h2
  rw [h2] at hr
  rcases h3 with ⟨h3, _⟩ | ⟨_, _, h3⟩
  ·cases h3
  ·exact ⟨hr, h3⟩
theorem A9N {Z : Led} {k : Int} {lv lv' : List Value} {rows' : List Row} {v : Value} {lo lo' : Int} (h : TakeRes Z k lv lv' [] rows' [] v lo lo') : v = .none := by
 rcases h.res with ⟨_, _, h, _⟩ | ⟨row, h1, _⟩
 ·exact h
 ·simp at h1
theorem RowsIn.nil_of {R : Led} {vs : List Value} (h : RowsIn R vs []) : vs = [] := by cases h; rfl
theorem Plan.inj {P : Plan} (h : P.Ok) {i j : Nat} (hi : i ≤ 2) (hj : j ≤ 2) (e : P.n i = P.n j) : i = j := by
 rcases Nat.lt_trichotomy i j with q | q | q
 ·have := P.le h q hj; omega
 ·exact q
 ·have := P.le h q hi; omega
theorem Inv.ans {P : Plan} {R : Led} {b : Nat} {lv av cv bv : List Value} {rows late : List Row} {cuts : List (Int × Int)} {p hi c tm p' : Int} {kvs : List (By × Value)} (h : Inv P R b lv av cv bv rows late cuts p hi c tm kvs) {i : Nat} (hi' : (i : Int) ≤ hi) (hp' : p' = if (i : Int) = p then p + 1 else p) :
  Inv P R b lv av cv bv rows late cuts p' hi c tm kvs := by
 have h1 := h.hp
 have h2 := h.h2
 have h3 := h.ph
 have h4 := h.p0
 have h5 := h.p3
 have : p ≤ p' ∧ p' ≤ hi + 1 := by split at hp' <;> omega
 exact { h with ok := fun x hx => (h.ok x hx).mono this.1 (Int.le_refl _), p0 := by omega, p3 := by omega, hp := by omega, ph := this.2 }
end Mine
namespace Mine
section
variable {Γ : Cx} {vs : A0e} {led R C : Led} {Q : Value → A0e → Led → Prop} {k : Nat} {w : World}
theorem B3k {P : Plan} {n nd fa ly la cu m md s sd nw ba nl wl sl se msg : Addr} {sn lo p hi c tmv lst : Int} {ts tl tp th tc ta ttm tcq tls : Tok} {du kp : Value} {lv av cv fv nv dv wv sv bv : List Value} {fs : List Int} {rows late : List Row} {cuts : List (Int × Int)} {kvs : List (By × Value)} {X : Led} {b i : Nat}
  (hd : Low Γ k) (hk : k ≤ 480) (hnd : Γ.nd = true) (hw : Γ.w = w)
  (Pk : Pick [(nd, A3P fa ly la (.int sn ts) (.int lo tl) cu), (ly, .list lv), (la, .list av), (cu, .list cv), (se, .list [.int p tp, .int hi th, .int c tc]), (md, A5z s (.int c ta) (.int tmv ttm) du tcq), (sd, A4o nw ba kp (.int lst tls)), (nw, .bdict w kvs), (ba, .list bv)] led R)
  (hC : Cut C X R) (hn : (n, .inst 747 nd) ∈ R) (hfa : (fa, .list fv) ∈ R) (hmi : (m, .inst 1055 md) ∈ R) (hs : (s, .inst 1132 sd) ∈ R) (lo' : Ok nw) (hnl : (nl, .list nv) ∈ R) (hwl : (wl, .list wv) ∈ R) (hsl : (sl, .list sv) ∈ R)
  (hP : P.Ok) (h4 : Is4 P 2 nv dv wv sv) (I : Inv P X b lv av cv bv rows late cuts p hi c tmv kvs) (hb : b ≤ 30) (hfi : IntsAre fv fs) (hfz : fv.length ≤ 100) (hi2 : i ≤ 2) (hip : (i : Int) ≤ p) (hm : ReqIn R msg (P.n i) (P.cmd i).data)
  (q : ∀ X' lv' av' la' rows' late' lo2 ts' tl' kvs1 bv1 la1 ta1 tt1 tc1 tl1 th' tcc rep, Grow X X' → Inv P X' (b + 1) lv' av' cv bv1 rows' late' cuts p (max hi i) (c + 1) 1 kvs1 → (hi ≤ i → rep = P.want i) → Sent rows late rows' late' (.ans (P.n i) rep) cuts fv lo lo2 →
   Q (.bool true) vs ((nd, A3P fa ly la' (.int (sn + 1) ts') (.int lo2 tl') cu) :: (ly, .list lv') :: (la', .list av') :: (cu, .list cv) :: (se, .list [.int p tp, .int (max hi i) th', .int (c + 1) tcc]) :: (md, A5z s (.int (c + 1) ta1) (.int 1 tt1) du tc1) :: (sd, A4o nw ba kp (.int la1 tl1)) :: (nw, .bdict w kvs1) :: (ba, .list bv1) :: (C ++ X'))) :
  Run Γ vs led (call (.ref 1171) [.ref n, .ref m, .ref msg, .ref nl, .ref wl, .ref sl, .ref se]) Q := by
 obtain ⟨tab, T, kv⟩ := I.tab
 have hph := I.ph
 have hh2 := I.h2
 have hhm := I.hm
 have hc0 := I.c0
 have hcb := I.cb
 have hhp := I.hp
 obtain ⟨rep, ops, hres, hrep, T'⟩ := handled hP T hi2 (by omega) hh2 [(c + 1).toNat.toUInt8, 1, 0]
 have e := A7n hP hi2
 have hlr := I.rl.length
 have hla := I.ra.length
 have hlen := I.len
 have hbl := I.bl
 refine B4A (i := 0) (tw := 0) (ns := A5a P) (num := P.n i) (cmd := P.cmd i) (tab := tab) (ops := ops) (rep := rep) (X := X) hd hk hnd hw Pk hC hn hfa (I.pc.grow hC.grow) I.rl I.ra hfi hfz (by omega) (by omega) hmi hs lo' kv (P.cmdOk hP hi2) hres ?hold hc0 (by omega) (by omega)
  (by have := T.neat.len; omega) hnl h4.ints (A5F hP) (A6H P hi2) (by rw [e]; omega) hwl hsl hm (by omega) ?hright ?hst ?q
 case hold =>
  intro v hv
  by_cases h0 : hi < 0
  ·rw [T.none h0] at hv; cases hv
  ·obtain ⟨j, hj⟩ : ∃ j : Nat, hi = j := ⟨hi.toNat, by omega⟩
   rw [(T.some j hj).2] at hv
   have := P.st_len j v hv
   omega
 case hright =>
  rw [e]
  rcases hrep with ⟨h1, h2⟩ | ⟨h1, h2⟩
  ·obtain ⟨_, _, ⟨t, ht⟩, _⟩ := h4.at' i hi2
   refine .inl ⟨h1, t, ?_⟩
   rw [h2]; simpa using ht
  ·exact .inr ⟨h1, h2⟩
 case hst =>
  rw [e]
  obtain ⟨j, hj⟩ : ∃ j : Nat, max hi (i : Int) = j := ⟨(max hi (i : Int)).toNat, by omega⟩
  obtain ⟨_, _, _, ⟨t, ht⟩⟩ := h4.at' j (by omega)
  rw [(T'.some j hj).2, hj]
  exact ⟨t, by simpa using ht⟩
 case q =>
  intro X' lv' av' la' rows' late' lo2 ts' tl' kvs1 bv1 la1 ta1 tm1 tc1 tl1 th' tcc g h1 h2 h3 h5 h6
  rw [e]
  refine q X' lv' av' la' rows' late' lo2 ts' tl' kvs1 bv1 la1 ta1 tm1 tc1 tl1 th' tcc rep g ?_ (fun h => ?_) h3
  ·have hlen3 := h3.len
   refine { rl := h1, ra := h2, pc := I.pc.grow g, ok := fun x hx => ?_, len := by omega, clen := by have := I.clen; omega, p0 := I.p0, p3 := I.p3, hp := by omega, ph := by omega, h2 := by omega, hm := by omega, c0 := by omega, cb := by omega, tab := ⟨_, T', h5⟩, bl := by omega, tm1 := fun _ => rfl }
   rcases h3.old x hx with h | h
   ·exact (I.ok x h).mono (Int.le_refl _) (by omega)
   ·rw [h]
    refine ⟨i, by omega, rfl, ?_⟩
    rcases hrep with h | h
    ·exact .inl h.2
    ·exact .inr ⟨by omega, h.2⟩
  ·rcases hrep with h' | h'
   ·exact h'.2
   ·omega
theorem B0K {P : Plan} {n m nl wl sl se msg : Addr} {p hi c : Int} {tp th tc : Tok} {nv dv wv sv : List Value} {i : Nat} {ctx : By} (hd : Low Γ k) (hk : k ≤ 480) (Ps : Pick [(se, .list [.int p tp, .int hi th, .int c tc])] led R) (hnl : (nl, .list nv) ∈ R) (hwl : (wl, .list wv) ∈ R) (hP : P.Ok) (h4 : Is4 P 2 nv dv wv sv)
  (hm : AnsIn R msg (P.n i) ctx) (hc : ctx = P.want i ∨ ((i : Int) < hi ∧ ctx = [3, 0])) (h2 : hi ≤ 2) (hp3 : p ≤ 3) (hhp : hi ≤ p) (hih : (i : Int) ≤ hi)
  (q : ∀ p' tp', p' = (if (i : Int) = p then p + 1 else p) → Q (.bool true) vs ((se, .list [.int p' tp', .int hi th, .int c tc]) :: R)) :
  Run Γ vs led (call (.ref 1171) [.ref n, .ref m, .ref msg, .ref nl, .ref wl, .ref sl, .ref se]) Q := by
 have hi2 : i ≤ 2 := by omega
 have e := A7n hP hi2
 obtain ⟨_, _, ⟨t, ht⟩, _⟩ := h4.at' i hi2
 by_cases hip : (i : Int) = p
 ·have hctx : ctx = P.want i := by rcases hc with h | h; exact h; omega
  rw [if_pos hip] at q
  refine B4D (ns := A5a P) (ctx := ctx) (num := P.n i) (tw := t) hd (by omega) Ps hnl h4.ints (A5F hP) (A6H P hi2) (by rw [e]; exact hip) hwl ?_ hm (by omega) fun t => q _ _ rfl
  rw [hctx, show p.toNat = i from by omega]; exact ht
 ·rw [if_neg hip] at q
  refine Run.pick1 Ps ?_
  refine B4C (ns := A5a P) (ctx := ctx) (num := P.n i) (tw := t) (want := P.want i) hd (by omega) (.head _) (.tail _ hnl) h4.ints (A5F hP) (A6H P hi2) (by rw [e]; omega) (.tail _ hwl) (by rw [e]; simpa using ht) (hm.mono (Grow.cons Grow.refl)) (by omega) (hc.imp id fun h => h.2) (q _ _ rfl)
end
end Mine
namespace Mine
section
variable {Γ : Cx} {led R C : Led} {ks : List (List Stmt)} {rest : List Stmt} {Q : Flow → A0e → Led → Prop} {k : Nat} {w : World}
inductive St13 (P : Plan) (w : World) (sc a9 : Option Value) (n nd fa ly m md s sd nw ba nl dl wl sl nu se : Addr) (du kp : Value) (fv nv dv wv sv xs : List Value) (j : Nat) : A0e → Led → Prop
 | mk (x9 i9 k9 w9 e9 o9 c9 f9 t9 t10 y9 l9 m9 : Option Value) (la cu wy : Addr) (sn lo p hi c tmv lst : Int) (ts tl tp th tc ta ttm tcq tls : Tok) (lv av cv bv : List Value) (rows late : List Row) (cuts : List (Int × Int)) (kvs : List (By × Value)) (w0 w1 : Bool) (X : Led)
  (fx : Fix X n nd fa m md s sd nl dl wl sl nu fv nv dv wv sv xs) (I : Inv P X j lv av cv bv rows late cuts p hi c tmv kvs) (hw0 : w0 = true ↔ ((2 : Int), (1 : Int)) ∉ cuts) (hw1 : w1 = true ↔ ((1 : Int), (2 : Int)) ∉ cuts) :
  St13 P w sc a9 n nd fa ly m md s sd nw ba nl dl wl sl nu se du kp fv nv dv wv sv xs j
   (LV sc x9 (some (.ref nu)) a9 i9 (some (.ref n)) (some (.ref m)) (some (.ref nl)) (some (.ref dl)) (some (.ref wl)) (some (.ref sl)) k9 w9 e9 o9 c9 f9 (some (.ref se)) (some (.ref wy)) t9 t10 y9 l9 m9 none none)
   ((nd, A3P fa ly la (.int sn ts) (.int lo tl) cu) :: (ly, .list lv) :: (la, .list av) :: (cu, .list cv) :: (se, .list [.int p tp, .int hi th, .int c tc]) :: (md, A5z s (.int c ta) (.int tmv ttm) du tcq) :: (sd, A4o nw ba kp (.int lst tls)) :: (nw, .bdict w kvs) :: (ba, .list bv) :: (wy, .list [.bool w0, .bool w1]) :: X)
theorem B6v {P : Plan} {sc a9 : Option Value} {n nd fa ly m md s sd nw ba nl dl wl sl nu se cb : Addr} {du kp : Value} {fv nv dv wv sv xs : List Value} {fs ns : List Int} {vs : A0e} (hd : Low Γ k) (hk : k ≤ 100) (Lx : LawCx Γ cb) (hw : Γ.w = w) (hP : P.Ok) (h4 : Is4 P 2 nv dv wv sv) (lo' : Ok nw)
  (hfi : IntsAre fv fs) (hfz : fv.length ≤ 100) (hxi : IntsAre xs ns) (hxne : xs.length ≠ 0) (hxz : xs.length ≤ 100)
  (J0 : St13 P w sc a9 n nd fa ly m md s sd nw ba nl dl wl sl nu se du kp fv nv dv wv sv xs 0 vs led)
  (q : ∀ vs led, St13 P w sc a9 n nd fa ly m md s sd nw ba nl dl wl sl nu se du kp fv nv dv wv sv xs 6 vs led → Do Γ vs led (rest :: ks) Q) :
  Do Γ vs led ((A3g A0p 13 :: rest) :: ks) Q := by
 have hdp := hd
 have hnd := Lx.nd
 refine A2P (s' := .For _ _ _ [] _) rfl ?_
 refine A4f (a := 0) (n := 6) (by decide) (by decide) (by decide) (fun j vs L => ∃ L', Sub L' L ∧ St13 P w sc a9 n nd fa ly m md s sd nw ba nl dl wl sl nu se du kp fv nv dv wv sv xs j vs L') ?H ?turn ?done (by intro _; rfl) (by intro _ _; rfl)
 case done =>
  rintro vs L' ⟨L9, sb, h⟩
  exact Do.sub sb (q _ _ h)
 case H =>
  refine rC' (Eb A4i (LawCx.gl Lx) M3) Callee.ty rfl rfl ?_
  refine A0k Ar.con (fun _ => ?_)
  refine A0d ?_
  refine A3e (fun _ _ _ => ?_)
  exact Stop.mk ⟨_, _, _, _, rfl, List.mem_cons_self, _, .skip .refl, J0⟩
 case turn =>
  rintro j t0 vs L' it hj ⟨L9, sb, x9, i9, k9, w9, e9, o9, c9, f9, t9, t10, y9, l9, m9, la, cu, wy, sn, lo, p, hi, c, tmv, lst, ts, tl, tp, th, tc, ta, ttm, tcq, tls, lv, av, cv, bv, rows, late, cuts, kvs, w0, w1, X, fx, I, hw0, hw1⟩
  refine Run.sub (sb.cons .head) ?_
  obtain ⟨hn, hfa, hm, hs, hnl, hdl, hwl, hsl, hnu⟩ := id fx
  have hlr := I.rl.length
  have hla := I.ra.length
  have hlen := I.len
  have hclen := I.clen
  have hp0 := I.p0
  have hp3 := I.p3
  dsimp only [LV]
  refine A0b V19 ?_
  refine xAs rfl ?_
  refine rC' (Eg A3X (LawCx.gl Lx) M1) (Callee.fn A8i) rfl rfl ?_
  refine A0m (En M2) ?_
  refine A0k (Ar.bin Ar.con (Ar.val (En M19)) Bo.add) (fun _ => ?_)
  refine A0d ?_
  refine B0N hdp (up0 hk rfl) (N11 hnu) hxi hxne hxz (fun _ _ => ?_)
  refine kAs V1 ?_
  refine xAs rfl ?_
  refine rAr (Ar.bin (Ar.val (En M1)) Ar.con (Bo.mod (fun _ => (by omega)))) (fun _ => ?_)
  refine kAs V20 ?_
  refine xAs rfl ?_
  refine rAr (Ar.bin (Ar.val (En M1)) Ar.con (Bo.div (fun _ => (by omega)) (by decide))) (fun _ => ?_)
  refine kAs V21 ?_
  refine xIf ?_
  refine A0g (Ar.val (En M20)) Ar.con rfl Ci.lt ?_
  refine ⟨fun hb => ?_, fun hb => ?_⟩
  ·by_cases hp : p < 3
   ·obtain ⟨i, hi'⟩ : ∃ i : Nat, p = i := ⟨p.toNat, by omega⟩
    obtain ⟨⟨u1, g1⟩, ⟨u2, g2⟩, _⟩ := h4.at' i (by omega)
    have g1' : nv[p.toNat]? = some (.int (P.n i) u1) := by rw [show p.toNat = i from by omega]; exact g1
    have g2' : dv[p.toNat]? = some (.bytes (P.cmd i).data.toArray u2) := by rw [show p.toNat = i from by omega]; exact g2
    refine xIf ?_
    refine A0g (Ar.val (Ei (En M17) Ar.con (It.list M5 (by decide) (by decide) rfl (by intro _; with_unfolding_all rfl)))) Ar.con rfl Ci.lt ?_
    refine A2s (by fail "c3") ?_
    refine A4Y (Ea M5 (N11 hn) M1 M5 A1j rfl) rfl V22 ?_
    refine A1A rfl ?_
    refine rC (Eg A5p (LawCx.gl Lx) M10) (Callee.fn B0p) (Evs.cons (En M5) (Evs.cons (Ei (En M7) (Ar.val (Ei (En M17) Ar.con (It.list M5 (by decide) (by decide) rfl (by intro _; with_unfolding_all rfl)))) (It.list (N11 hnl) hp0 (by omega) g1' (by intro _; with_unfolding_all rfl))) (Evs.cons (Ei (En M8) (Ar.val (Ei (En M17) Ar.con (It.list M5 (by decide) (by decide) rfl (by intro _; with_unfolding_all rfl)))) (It.list (N11 hdl) hp0 (by omega) g2' (by intro _; with_unfolding_all rfl))) Evs.nil))) ?_
    refine' B3u (num := P.n i) (data := (P.cmd i).data) (rows := rows) (late := late) (cuts := cuts) (X := X) hd (by omega) ?P ?hC ?hn ?hfa (I.pc.grow ?gg) I.rl I.ra hfi hfz (by omega) (by omega) ?_
    case P => exact Pick.cons E1 (Pick.cons E1 (Pick.cons E1 (Pick.cons E1 Pick.nil)))
    case hC => exact Cut.cons (Cut.cons (Cut.cons (Cut.cons (Cut.cons (Cut.cons (Cut.cons Cut.nil))))))
    case hn => exact N7 hn
    case hfa => exact N7 hfa
    case gg => exact Grow.cons (Grow.cons (Grow.cons (Grow.cons (Grow.cons (Grow.cons (Grow.cons Grow.refl))))))
    intro X' lv' av' la' rows' late' lo2 ts' tl' g h1 h2 h3
    simp only [List.cons_append, List.nil_append]
    refine ⟨trivial, ?_⟩
    have hfx := fx.grow g
    have hI : Inv P X' (j + 1) lv' av' cv bv rows' late' cuts p hi c tmv kvs := I.sent g h1 h2 h3 ⟨i, by omega, by omega, rfl, rfl⟩
    have hv0 := hw0
    have hv1 := hw1
    cases w0 with
    | true =>
     refine xIf ?_
     refine A3K ?_
     refine A5n ?_
     refine A1F (Ei (En M18) Ar.con (It.list M10 (by decide) (by decide) rfl (by intro _; with_unfolding_all rfl))) rfl ?_
     refine A0c ?_
     refine A1D rfl ?_
     refine A0R rfl ?_
     refine A0a ?_
     refine A0a ?_
     refine A0a ?_
     refine A0a ?_
     refine A0n ?_
     dsimp only
     exact ⟨_, by exact Sub.cons E4 Sub.refl, _, Sub.refl, _, _, _, _, _, _, _, _, _, _, _, _, _, _, _, _, _, _, _, _, _, _, _, _, _, _, _, _, _, _, _, _, _, _, _, _, _, _, _, _, _, _, _, hfx, hI, hv0, hv1⟩
    | false =>
     have hlo : lo2 = lo + 1 := h3.cut (by
      refine Classical.byContradiction fun hc => ?_
      exact Bool.false_ne_true (hw0.mpr hc))
     refine xIf ?_
     refine A3K ?_
     refine A5n ?_
     refine A1F (Ei (En M18) Ar.con (It.list M10 (by decide) (by decide) rfl (by intro _; with_unfolding_all rfl))) rfl ?_
     refine A0c ?_
     refine A3N rfl ?_
     refine A3K ?_
     refine A0g (Ar.val (Ea M5 (N11 (Grow.mem g hn)) M0 M5 A1j rfl)) (Ar.bin (Ar.val (En M22)) Ar.con Bo.add) rfl Ci.ne ?_
     refine A1D (by fail "c3") ?_
     refine A0R rfl ?_
     refine A0a ?_
     refine A0a ?_
     refine A0a ?_
     refine A0a ?_
     refine A0n ?_
     dsimp only
     exact ⟨_, by exact Sub.cons E4 Sub.refl, _, Sub.refl, _, _, _, _, _, _, _, _, _, _, _, _, _, _, _, _, _, _, _, _, _, _, _, _, _, _, _, _, _, _, _, _, _, _, _, _, _, _, _, _, _, _, _, hfx, hI, hv0, hv1⟩
   ·have hI := I.b (Nat.le_succ j)
    have hfx := fx
    have hv0 := hw0
    have hv1 := hw1
    refine xIf ?_
    refine A0g (Ar.val (Ei (En M17) Ar.con (It.list M5 (by decide) (by decide) rfl (by intro _; with_unfolding_all rfl)))) Ar.con rfl Ci.lt ?_
    refine A0R (by fail "c3") ?_
    refine A0a ?_
    refine A0a ?_
    refine A0a ?_
    refine A0n ?_
    dsimp only
    exact ⟨_, by exact Sub.refl, _, Sub.refl, _, _, _, _, _, _, _, _, _, _, _, _, _, _, _, _, _, _, _, _, _, _, _, _, _, _, _, _, _, _, _, _, _, _, _, _, _, _, _, _, _, _, _, hfx, hI, hv0, hv1⟩
  ·refine xIf ?_
   refine A0g (Ar.val (En M20)) Ar.con rfl Ci.lt ?_
   refine ⟨fun hb2 => ?_, fun hb2 => ?_⟩
   ·refine xAs rfl ?_
    refine rM (En M5) (Gm.inst (N11 hn) M1 A3a rfl) (Evs.cons (En M21) Evs.nil) rfl ?_
    refine' B0M (rows := rows) (cuts := cuts) (Z := X) hd (by omega) ?P ?hC ?hn (I.pc.grow ?gg) I.rl (by omega) ?_
    case P => exact Pick.cons E1 (Pick.cons E1 (Pick.cons E2 Pick.nil))
    case hC => exact Cut.cons (Cut.cons (Cut.cons (Cut.cons (Cut.cons (Cut.cons (Cut.cons (Cut.cons Cut.nil)))))))
    case hn => exact N8 hn
    case gg => exact Grow.cons (Grow.cons (Grow.cons (Grow.cons (Grow.cons (Grow.cons (Grow.cons (Grow.cons Grow.refl)))))))
    rintro v lv' rows' lo2 tl' ⟨rin, res⟩
    have hrs : (∀ x ∈ rows', x ∈ rows) ∧ rows'.length ≤ rows.length := by
     rcases res with ⟨h1, h2, _⟩ | ⟨row, _, h2, _⟩
     ·rw [h1, h2]; exact ⟨fun x hx => hx, Nat.le_refl _⟩
     ·rw [h2]; exact ⟨fun x hx => List.mem_of_mem_eraseIdx hx, by rw [List.length_eraseIdx]; split <;> omega⟩
    have I2 := I.taken rin hrs.1 hrs.2
    have hres : v = .none ∨ ∃ row m1, row ∈ rows ∧ (row.msg.frm, row.msg.to) ∉ cuts ∧ v = .ref m1 ∧ MsgIn X m1 row.msg := by
     rcases res with ⟨_, _, h, _⟩ | ⟨row, hr, _, ⟨_, h, _⟩ | ⟨hnot, _, m1, h, hm⟩⟩
     ·exact .inl h
     ·exact .inl h
     ·exact .inr ⟨row, m1, List.mem_of_getElem? hr, hnot, h, hm⟩
    clear res
    rcases hres with rfl | ⟨⟨num9, M⟩, m1, hrow, hnot, rfl, hmsg⟩
    ·have hI := I2.b (Nat.le_succ j)
     have hfx := fx
     have hv0 := hw0
     have hv1 := hw1
     refine kAs V23 ?_
     refine xIf ?_
     refine A3K ?_
     refine A1K (En M23) Eo rfl Cm.noNN ?_
     refine A1D rfl ?_
     refine A0R rfl ?_
     refine A0a ?_
     refine xIf ?_
     refine A5n ?_
     refine A2t rfl ?_
     refine rC (Eg A2l (LawCx.gl Lx) M11) (Callee.fn A5d) (Evs.cons (En M5) (Evs.cons (En M6) (Evs.cons (En M23) (Evs.cons (En M7) (Evs.cons (En M9) (Evs.cons (En M10) (Evs.cons (En M17) Evs.nil))))))) ?_
     refine B4B hdp (up0 hk rfl) ?_
     refine A0c ?_
     refine A0R rfl ?_
     refine A0a ?_
     refine A0a ?_
     refine A0a ?_
     refine A0a ?_
     refine A0n ?_
     dsimp only
     exact ⟨_, by exact Sub.cons E3 (Sub.cons E0 (Sub.cons E0 (Sub.cons E1 Sub.refl))), _, Sub.refl, _, _, _, _, _, _, _, _, _, _, _, _, _, _, _, _, _, _, _, _, _, _, _, _, _, _, _, _, _, _, _, _, _, _, _, _, _, _, _, _, _, _, _, hfx, hI, hv0, hv1⟩
    ·have hok := I.ok _ (List.mem_append_left _ hrow)
     cases M with
     | req num data =>
      obtain ⟨i, hip, hi2, rfl, rfl⟩ := hok
      have hv0 := hw0
      have hv1 := hw1
      obtain rfl : w0 = true := hw0.mpr hnot
      obtain ⟨md1, el1, e1, ed1, t1, t2, t3, t4, t5, t6, t7, t8, t11, u1, u2, u3, u4, hm1, hm2, hm3, hm4, hm5⟩ := id hmsg
      refine kAs V23 ?_
      refine xIf ?_
      refine A3K ?_
      refine A1K (En M23) Eo rfl (Cm.noN (fun e => Value.noConfusion e)) ?_
      refine A3N rfl ?_
      refine A3K ?_
      refine A5n ?_
      refine A1F (Ei (En M18) (Ar.bin (Ar.val (Ea M23 (N11 hm1) (N11 hm2) M1 A0C rfl)) Ar.con Bo.sub) (It.list M10 (by decide) (by decide) rfl (by intro _; with_unfolding_all rfl))) rfl ?_
      refine A0c ?_
      refine A1D rfl ?_
      refine A0R rfl ?_
      refine A0a ?_
      refine xIf ?_
      refine A5n ?_
      refine A2t rfl ?_
      refine rC (Eg A2l (LawCx.gl Lx) M11) (Callee.fn A5d) (Evs.cons (En M5) (Evs.cons (En M6) (Evs.cons (En M23) (Evs.cons (En M7) (Evs.cons (En M9) (Evs.cons (En M10) (Evs.cons (En M17) Evs.nil))))))) ?_
      refine' B3k (P := P) (b := j) (X := X) (i := i) (fs := fs) (dv := dv) hd (by omega) hnd hw ?Pk ?hC ?hn ?hfa ?hmi ?hs lo' ?hnl ?hwl ?hsl hP h4 I2 (by omega) hfi hfz hi2 hip ?hm ?_
      case Pk => exact Pick.cons E0 (Pick.cons E0 (Pick.cons E2 (Pick.cons E0 (Pick.cons E1 (Pick.cons E1 (Pick.cons E1 (Pick.cons E1 (Pick.cons E1 Pick.nil))))))))
      case hC => exact Cut.cons (Cut.cons Cut.nil)
      case hn => exact N2 hn
      case hfa => exact N2 hfa
      case hmi => exact N2 hm
      case hs => exact N2 hs
      case hnl => exact N2 hnl
      case hwl => exact N2 hwl
      case hsl => exact N2 hsl
      case hm => exact ReqIn.mono (by exact Grow.cons (Grow.cons Grow.refl)) hmsg
      intro X' lv2 av2 la2 rows2 late2 lo3 ts3 tl3 kvs1 bv1 la1 ta1 tt1 tc1 tl1 th' tcc rep g hI hrep hsent
      simp only [List.cons_append, List.nil_append]
      have hfx := fx.grow g
      refine A0c ?_
      refine A0R rfl ?_
      refine A0a ?_
      refine A0a ?_
      refine A0a ?_
      refine A0a ?_
      refine A0n ?_
      dsimp only
      exact ⟨_, by exact Sub.cons E9 Sub.refl, _, Sub.refl, _, _, _, _, _, _, _, _, _, _, _, _, _, _, _, _, _, _, _, _, _, _, _, _, _, _, _, _, _, _, _, _, _, _, _, _, _, _, _, _, _, _, _, hfx, hI, hv0, hv1⟩
     | ans num ctx =>
      obtain ⟨i, hih, rfl, hctx⟩ := hok
      have hv0 := hw0
      have hv1 := hw1
      obtain rfl : w1 = true := hw1.mpr hnot
      obtain ⟨md1, el1, t1, t2, t3, t4, t5, t6, t7, t8, t11, hm1, hm2, hm3⟩ := id hmsg
      refine kAs V23 ?_
      refine xIf ?_
      refine A3K ?_
      refine A1K (En M23) Eo rfl (Cm.noN (fun e => Value.noConfusion e)) ?_
      refine A3N rfl ?_
      refine A3K ?_
      refine A5n ?_
      refine A1F (Ei (En M18) (Ar.bin (Ar.val (Ea M23 (N11 hm1) (N11 hm2) M1 A0C rfl)) Ar.con Bo.sub) (It.list M10 (by decide) (by decide) rfl (by intro _; with_unfolding_all rfl))) rfl ?_
      refine A0c ?_
      refine A1D rfl ?_
      refine A0R rfl ?_
      refine A0a ?_
      refine xIf ?_
      refine A5n ?_
      refine A2t rfl ?_
      refine rC (Eg A2l (LawCx.gl Lx) M11) (Callee.fn A5d) (Evs.cons (En M5) (Evs.cons (En M6) (Evs.cons (En M23) (Evs.cons (En M7) (Evs.cons (En M9) (Evs.cons (En M10) (Evs.cons (En M17) Evs.nil))))))) ?_
      refine' B0K (P := P) (i := i) (ctx := ctx) (dv := dv) (sv := sv) hd (by omega) ?Ps ?hnl ?hwl hP h4 ?hm hctx I.h2 I.p3 I.hp hih ?_
      case Ps => exact Pick.cons E5 Pick.nil
      case hnl => exact N10 hnl
      case hwl => exact N10 hwl
      case hm => exact AnsIn.mono (by exact Grow.cons (Grow.cons (Grow.cons (Grow.cons (Grow.cons (Grow.cons (Grow.cons (Grow.cons (Grow.cons (Grow.cons Grow.refl)))))))))) hmsg
      intro p' tp' hp'
      have hI := (I2.ans hih hp').b (Nat.le_succ j)
      have hfx := fx
      refine A0c ?_
      refine A0R rfl ?_
      refine A0a ?_
      refine A0a ?_
      refine A0a ?_
      refine A0a ?_
      refine A0n ?_
      dsimp only
      exact ⟨_, by exact Sub.cons E4 (Sub.cons E1 (Sub.cons E1 (Sub.cons E2 (Sub.cons E1 Sub.refl)))), _, Sub.refl, _, _, _, _, _, _, _, _, _, _, _, _, _, _, _, _, _, _, _, _, _, _, _, _, _, _, _, _, _, _, _, _, _, _, _, _, _, _, _, _, _, _, _, hfx, hI, hv0, hv1⟩
   ·refine xIf ?_
    refine A0g (Ar.bin (Ar.val (En M21)) Ar.con (Bo.mod (fun _ => (by omega)))) Ar.con rfl Ci.eq ?_
    have hpc := I.pc
    refine ⟨fun hb3 => ?_, fun hb3 => ?_⟩
    ·refine A1A rfl ?_
     refine rM' (En M5) (Gm.inst (N11 hn) M1 A9k rfl) rfl rfl rfl ?_
     refine A0k Ar.con (fun _ => ?_)
     refine A0k Ar.con (fun _ => ?_)
     refine A0d ?_
     refine B9T hdp (up0 hk rfl) (Pick.cons E1 (Pick.cons E3 Pick.nil)) (Cut.cons (Cut.cons (Cut.cons (Cut.cons (Cut.cons (Cut.cons (Cut.cons (Cut.cons (Cut.cons Cut.nil))))))))) (N9 hn) hpc (by omega) (fun _ _ _ _ _ _ _ => ?_)
     dsimp only [List.cons_append, List.nil_append]
     refine A1B ?_
     refine xAs rfl ?_
     refine A3r (Evs.cons Et (Evs.cons Et Evs.nil)) ?_
     refine A0o (by decide) (fun _ => ?_)
     refine kAs V18 ?_
     refine A0a ?_
     refine A0a ?_
     refine A0a ?_
     refine A0a ?_
     refine A0n ?_
     dsimp only
     rename_i R2 cv2 cuts2 g2 P2 hm2 hl2 wy2
     have hfx := fx.grow g2
     have hI := I.cuts g2 P2 (by omega)
     have hv0 : (false = true ↔ ((2 : Int), (1 : Int)) ∉ cuts2) := ⟨nofun, fun h => absurd ((hm2 _).mpr (.inr (.inr rfl))) h⟩
     have hv1 : (false = true ↔ ((1 : Int), (2 : Int)) ∉ cuts2) := ⟨nofun, fun h => absurd ((hm2 _).mpr (.inr (.inl rfl))) h⟩
     exact ⟨_, by exact Sub.cons E3 (Sub.cons E1 (Sub.cons E2 (Sub.cons E2 (Sub.cons E1 (Sub.cons E1 (Sub.cons E1 (Sub.cons E1 (Sub.cons E1 (Sub.cons E1 (Sub.cons E0 (Sub.skip Sub.refl))))))))))), _, Sub.refl, _, _, _, _, _, _, _, _, _, _, _, _, _, _, _, _, _, _, _, _, _, _, _, _, _, _, _, _, _, _, _, _, _, _, _, _, _, _, _, _, _, _, _, hfx, hI, hv0, hv1⟩
    ·refine xIf ?_
     refine A0g (Ar.bin (Ar.val (En M21)) Ar.con (Bo.mod (fun _ => (by omega)))) Ar.con rfl Ci.eq ?_
     refine ⟨fun hb4 => ?_, fun hb4 => ?_⟩
     ·refine A1A rfl ?_
      refine rM' (En M5) (Gm.inst (N11 hn) M1 A2A rfl) rfl rfl rfl ?_
      refine A0k Ar.con (fun _ => ?_)
      refine A0k Ar.con (fun _ => ?_)
      refine A0d ?_
      refine B1R hdp (up0 hk rfl) (Pick.cons E1 (Pick.cons E3 Pick.nil)) (Cut.cons (Cut.cons (Cut.cons (Cut.cons (Cut.cons (Cut.cons (Cut.cons (Cut.cons (Cut.cons Cut.nil))))))))) (N9 hn) hpc (by omega) (fun _ _ _ _ _ _ _ => ?_)
      dsimp only [List.cons_append, List.nil_append]
      refine A1B ?_
      refine xSi rfl ?_
      refine rE Et ?_
      refine rE (En M18) ?_
      refine rAr Ar.con (fun _ => ?_)
      refine A4L (by decide) (by fail "c1") (by fail "c1") U10 ?_
      refine A0a ?_
      refine A0a ?_
      refine A0a ?_
      refine A0a ?_
      refine A0a ?_
      refine A0n ?_
      dsimp only
      rename_i R2 cv2 cuts2 g2 P2 hm2 hl2 tz
      have hfx := fx.grow g2
      have hI := I.cuts g2 P2 (by omega)
      have hv0 : (w0 = true ↔ ((2 : Int), (1 : Int)) ∉ cuts2) := by rw [hw0, hm2]; simp
      have hv1 : (false = true ↔ ((1 : Int), (2 : Int)) ∉ cuts2) := ⟨nofun, fun h => absurd ((hm2 _).mpr (.inr rfl)) h⟩
      rw [show ([.bool w0, .bool w1] : List Value).set (1 : Int).toNat (.bool false) = [.bool w0, .bool false] from rfl]
      exact ⟨_, by exact Sub.cons E2 (Sub.cons E0 (Sub.cons E1 (Sub.cons E1 Sub.refl))), _, Sub.refl, _, _, _, _, _, _, _, _, _, _, _, _, _, _, _, _, _, _, _, _, _, _, _, _, _, _, _, _, _, _, _, _, _, _, _, _, _, _, _, _, _, _, _, hfx, hI, hv0, hv1⟩
     ·refine xIf ?_
      refine A0g (Ar.bin (Ar.val (En M21)) Ar.con (Bo.mod (fun _ => (by omega)))) Ar.con rfl Ci.eq ?_
      refine ⟨fun hb5 => ?_, fun hb5 => ?_⟩
      ·refine A1A rfl ?_
       refine rM' (En M5) (Gm.inst (N11 hn) M1 A2A rfl) rfl rfl rfl ?_
       refine A0k Ar.con (fun _ => ?_)
       refine A0k Ar.con (fun _ => ?_)
       refine A0d ?_
       refine B1R hdp (up0 hk rfl) (Pick.cons E1 (Pick.cons E3 Pick.nil)) (Cut.cons (Cut.cons (Cut.cons (Cut.cons (Cut.cons (Cut.cons (Cut.cons (Cut.cons (Cut.cons Cut.nil))))))))) (N9 hn) hpc (by omega) (fun _ _ _ _ _ _ _ => ?_)
       dsimp only [List.cons_append, List.nil_append]
       refine A1B ?_
       refine xSi rfl ?_
       refine rE Et ?_
       refine rE (En M18) ?_
       refine rAr Ar.con (fun _ => ?_)
       refine A4L (by decide) (by fail "c1") (by fail "c1") U10 ?_
       refine A0a ?_
       refine A0a ?_
       refine A0a ?_
       refine A0a ?_
       refine A0a ?_
       refine A0a ?_
       refine A0n ?_
       dsimp only
       rename_i R2 cv2 cuts2 g2 P2 hm2 hl2 tz
       have hfx := fx.grow g2
       have hI := I.cuts g2 P2 (by omega)
       have hv1 : (w1 = true ↔ ((1 : Int), (2 : Int)) ∉ cuts2) := by rw [hw1, hm2]; simp
       have hv0 : (false = true ↔ ((2 : Int), (1 : Int)) ∉ cuts2) := ⟨nofun, fun h => absurd ((hm2 _).mpr (.inr rfl)) h⟩
       rw [show ([.bool w0, .bool w1] : List Value).set (0 : Int).toNat (.bool false) = [.bool false, .bool w1] from rfl]
       exact ⟨_, by exact Sub.cons E2 (Sub.cons E0 (Sub.cons E1 (Sub.cons E1 Sub.refl))), _, Sub.refl, _, _, _, _, _, _, _, _, _, _, _, _, _, _, _, _, _, _, _, _, _, _, _, _, _, _, _, _, _, _, _, _, _, _, _, _, _, _, _, _, _, _, _, hfx, hI, hv0, hv1⟩
      ·refine A1A rfl ?_
       refine rM (En M5) (Gm.inst (N11 hn) M1 A5H rfl) Evs.nil rfl ?_
       refine B7Q hdp (up0 hk rfl) (Pick.cons E1 Pick.nil) (N10 hn) (fun _ => ?_)
       refine A1B ?_
       refine xAs rfl ?_
       refine A3r (Evs.cons Et (Evs.cons Et Evs.nil)) ?_
       refine A0o (by decide) (fun _ => ?_)
       refine kAs V18 ?_
       refine A0a ?_
       refine A0a ?_
       refine A0a ?_
       refine A0a ?_
       refine A0a ?_
       refine A0a ?_
       refine A0n ?_
       dsimp only
       have hfx := fx
       have hI := I.cuts (cv' := []) (cuts' := []) Grow.refl .nil (by simp)
       have hv0 : (true = true ↔ ((2 : Int), (1 : Int)) ∉ ([] : List (Int × Int))) := by simp
       have hv1 : (true = true ↔ ((1 : Int), (2 : Int)) ∉ ([] : List (Int × Int))) := by simp
       exact ⟨_, by exact Sub.cons E3 (Sub.cons E1 (Sub.cons E2 (Sub.cons E2 (Sub.cons E1 (Sub.cons E2 (Sub.cons E2 (Sub.cons E2 (Sub.cons E2 (Sub.cons E2 (Sub.cons E0 (Sub.skip (Sub.skip Sub.refl)))))))))))), _, Sub.refl, _, _, _, _, _, _, _, _, _, _, _, _, _, _, _, _, _, _, _, _, _, _, _, _, _, _, _, _, _, _, _, _, _, _, _, _, _, _, _, _, _, _, _, hfx, hI, hv0, hv1⟩
end
end Mine
namespace Mine
section
variable {Γ : Cx} {led R C : Led} {ks : List (List Stmt)} {rest : List Stmt} {Q : Flow → A0e → Led → Prop} {k : Nat} {w : World}
inductive St17 (P : Plan) (w : World) (sc a9 : Option Value) (n nd m md s sd nw ba nl dl wl sl nu se : Addr) (du kp : Value) (nv dv wv sv xs : List Value) (b : Nat) (rows : List Row) (p : Int) : A0e → Led → Prop
 | mk (x9 i9 k9 w9 e9 o9 c9 f9 y8 t9 t10 y9 l9 m9 z9 : Option Value) (fa ly la cu : Addr) (sn lo hi c tmv lst : Int) (ts tl tp th tc ta ttm tcq tls : Tok) (lv bv : List Value) (kvs : List (By × Value)) (X : Led)
  (fx : Fix X n nd fa m md s sd nl dl wl sl nu [] nv dv wv sv xs) (I : Inv P X b lv [] [] bv rows [] [] p hi c tmv kvs) :
  St17 P w sc a9 n nd m md s sd nw ba nl dl wl sl nu se du kp nv dv wv sv xs b rows p
   (LV sc x9 (some (.ref nu)) a9 i9 (some (.ref n)) (some (.ref m)) (some (.ref nl)) (some (.ref dl)) (some (.ref wl)) (some (.ref sl)) k9 w9 e9 o9 c9 f9 (some (.ref se)) y8 t9 t10 y9 l9 m9 z9 none)
   ((nd, A3P fa ly la (.int sn ts) (.int lo tl) cu) :: (ly, .list lv) :: (la, .list []) :: (cu, .list []) :: (se, .list [.int p tp, .int hi th, .int c tc]) :: (md, A5z s (.int c ta) (.int tmv ttm) du tcq) :: (sd, A4o nw ba kp (.int lst tls)) :: (nw, .bdict w kvs) :: (ba, .list bv) :: X)
theorem B6u {P : Plan} {sc a9 : Option Value} {n nd fa ly m md s sd nw ba nl dl wl sl nu se cb : Addr} {du kp : Value} {fv nv dv wv sv xs : List Value} {vs : A0e} (hd : Low Γ k) (hk : k ≤ 100) (Lx : LawCx Γ cb) (hw : Γ.w = w)
  (J0 : St13 P w sc a9 n nd fa ly m md s sd nw ba nl dl wl sl nu se du kp fv nv dv wv sv xs 6 vs led)
  (q : ∀ vs led rows p, St17 P w sc a9 n nd m md s sd nw ba nl dl wl sl nu se du kp nv dv wv sv xs 6 rows p vs led → (∀ x ∈ rows, x.msg.to = 2) → 0 ≤ p → p ≤ 3 → Do Γ vs led (rest :: ks) Q) :
  Do Γ vs led ((A3g A0p 14 :: A3g A0p 15 :: A3g A0p 16 :: rest) :: ks) Q := by
 have hdp := hd
 obtain ⟨x9, i9, k9, w9, e9, o9, c9, f9, t9, t10, y9, l9, m9, la, cu, wy, sn, lo, p, hi, c, tmv, lst, ts, tl, tp, th, tc, ta, ttm, tcq, tls, lv, av, cv, bv, rows, late, cuts, kvs, w0, w1, X, fx, I, hw0, hw1⟩ := J0
 obtain ⟨hn, hfa, hm, hs, hnl, hdl, hwl, hsl, hnu⟩ := id fx
 have hlr := I.rl.length
 have hla := I.ra.length
 have hlen := I.len
 have h1 := I.rl
 have h2 := I.ra
 dsimp only [LV]
 refine A2P (s' := .Expr _ _) rfl ?_
 refine A1A rfl ?_
 refine rM (En M5) (Gm.inst (N10 hn) M0 A5H rfl) Evs.nil rfl ?_
 refine B7Q hdp (up0 hk rfl) (Pick.cons E0 Pick.nil) (N9 hn) (fun _ => ?_)
 refine A1B ?_
 refine A2P (s' := .Expr _ _) rfl ?_
 refine A1A rfl ?_
 refine rM (En M5) (Gm.inst (N11 hn) M0 A8f rfl) Evs.nil rfl ?_
 refine B9S hdp (up0 hk rfl) (Pick.cons E0 (Pick.cons E1 (Pick.cons E1 Pick.nil))) (N8 hn) (by omega) (by omega) (fun _ _ _ => ?_)
 refine A1B ?_
 refine A2P (s' := .Expr _ _) rfl ?_
 refine A1A rfl ?_
 refine rM' (En M5) (Gm.inst (N12 hn) M0 A5I rfl) rfl rfl rfl ?_
 refine A0k Ar.con (fun _ => ?_)
 refine A0d ?_
 refine B9V hdp (up0 hk rfl) (Pick.cons E0 (Pick.cons E0 (Pick.cons E0 Pick.nil))) (Cut.cons (Cut.cons (Cut.cons (Cut.cons (Cut.cons (Cut.cons (Cut.cons (Cut.cons (Cut.cons Cut.nil))))))))) (N9 hn) (RowsIn.app h1 h2) (by fail "c1") (fun _ _ _ _ _ _ => ?_)
 refine A1B ?_
 rename_i cu2 fa2 ly1 la1 tk1 ly2 la2 lv2 lo2 tl2 hrows
 have hfx : Fix ((fa2, LObj.list []) :: X) n nd fa2 m md s sd nl dl wl sl nu [] nv dv wv sv xs := ⟨.tail _ hn, .head _, .tail _ hm, .tail _ hs, .tail _ hnl, .tail _ hdl, .tail _ hwl, .tail _ hsl, .tail _ hnu⟩
 have hI := I.peace (hrows.mono (R' := (fa2, LObj.list []) :: X) (Grow.cons Grow.refl)) (fun x hx => (List.mem_filter.1 hx).1) (List.length_filter_le _ _)
 exact Do.sub (by exact Sub.cons E0 (Sub.cons E0 (Sub.cons E0 (Sub.cons E1 (Sub.cons E2 (Sub.cons E2 (Sub.cons E2 (Sub.cons E2 (Sub.cons E2 (Sub.cons E0 (Sub.skip (Sub.skip Sub.refl)))))))))))) (q _ _ _ _ ⟨_, _, _, _, _, _, _, _, _, _, _, _, _, _, _, _, _, _, _, _, _, _, _, _, _, _, _, _, _, _, _, _, _, _, _, _, _, _, hfx, hI⟩ (fun x hx => Msg.to2 (by simpa using (List.mem_filter.1 hx).2)) I.p0 I.p3)
end
end Mine
namespace Mine
section
variable {Γ : Cx} {led R C : Led} {ks : List (List Stmt)} {rest : List Stmt} {Q : Flow → A0e → Led → Prop} {k : Nat} {w : World}
theorem B6t {P : Plan} {sc a9 : Option Value} {n nd m md s sd nw ba nl dl wl sl nu se cb : Addr} {du kp : Value} {nv dv wv sv xs : List Value} {vs : A0e} {rows0 : List Row} {p0 : Int} (hd : Low Γ k) (hk : k ≤ 100) (Lx : LawCx Γ cb) (hw : Γ.w = w) (hP : P.Ok) (h4 : Is4 P 2 nv dv wv sv) (lo' : Ok nw)
  (J0 : St17 P w sc a9 n nd m md s sd nw ba nl dl wl sl nu se du kp nv dv wv sv xs 6 rows0 p0 vs led) (ha0 : ∀ x ∈ rows0, x.msg.to = 2) (hp00 : 0 ≤ p0) (hp03 : p0 ≤ 3)
  (q : ∀ vs led rows, St17 P w sc a9 n nd m md s sd nw ba nl dl wl sl nu se du kp nv dv wv sv xs 12 rows 3 vs led → (∀ x ∈ rows, x.msg.to = 2) → Do Γ vs led (rest :: ks) Q) :
  Do Γ vs led ((A3g A0p 17 :: rest) :: ks) Q := by
 have hdp := hd
 have hnd := Lx.nd
 refine A2P (s' := .For _ _ _ [] _) rfl ?_
 refine A4f (a := 0) (n := 3) (by decide) (by decide) (by decide) (fun j vs L => ∃ L', Sub L' L ∧ ∃ rows p, St17 P w sc a9 n nd m md s sd nw ba nl dl wl sl nu se du kp nv dv wv sv xs (6 + 2 * j) rows p vs L' ∧ (∀ x ∈ rows, x.msg.to = 2) ∧ (j : Int) ≤ p ∧ p ≤ 3) ?H ?turn ?done (by intro _; rfl) (by intro _ _; rfl)
 case done =>
  rintro vs L' ⟨L9, sb, rows, p, h, ha, hp, hp3⟩
  obtain rfl : p = 3 := by omega
  exact Do.sub sb (q _ _ _ h ha)
 case H =>
  refine rC' (Eb A4i (LawCx.gl Lx) M3) Callee.ty rfl rfl ?_
  refine A0k Ar.con (fun _ => ?_)
  refine A0d ?_
  refine A3e (fun _ _ _ => ?_)
  exact Stop.mk ⟨_, _, _, _, rfl, List.mem_cons_self, _, .skip .refl, _, _, J0, ha0, hp00, hp03⟩
 case turn =>
  rintro j t0 vs L' it hj ⟨L9, sb, rows, p, ⟨x9, i9, k9, w9, e9, o9, c9, f9, y8, t9, t10, y9, l9, m9, z9, fa, ly, la, cu, sn, lo, hi, c, tmv, lst, ts, tl, tp, th, tc, ta, ttm, tcq, tls, lv, bv, kvs, X, fx, I⟩, hall, hjp, hp3⟩
  refine Run.sub (sb.cons .head) ?_
  obtain ⟨hn, hfa, hm, hs, hnl, hdl, hwl, hsl, hnu⟩ := id fx
  have hlr := I.rl.length
  have hlen := I.len
  dsimp only [LV]
  by_cases hp : p < 3
  ·obtain ⟨i, hi'⟩ : ∃ i : Nat, p = i := ⟨p.toNat, by omega⟩
   obtain ⟨⟨u1, g1⟩, ⟨u2, g2⟩, _⟩ := h4.at' i (by omega)
   have g1' : nv[p.toNat]? = some (.int (P.n i) u1) := by rw [show p.toNat = i from by omega]; exact g1
   have g2' : dv[p.toNat]? = some (.bytes (P.cmd i).data.toArray u2) := by rw [show p.toNat = i from by omega]; exact g2
   refine A0b V19 ?_
   refine xIf ?_
   refine A0g (Ar.val (Ei (En M17) Ar.con (It.list M5 (by decide) (by decide) rfl (by intro _; with_unfolding_all rfl)))) Ar.con rfl Ci.lt ?_
   refine A2s (by fail "c3") ?_
   refine A1A rfl ?_
   refine rC (Eg A5p (LawCx.gl Lx) M10) (Callee.fn B0p) (Evs.cons (En M5) (Evs.cons (Ei (En M7) (Ar.val (Ei (En M17) Ar.con (It.list M5 (by decide) (by decide) rfl (by intro _; with_unfolding_all rfl)))) (It.list (N10 hnl) (by omega) (by omega) g1' (by intro _; with_unfolding_all rfl))) (Evs.cons (Ei (En M8) (Ar.val (Ei (En M17) Ar.con (It.list M5 (by decide) (by decide) rfl (by intro _; with_unfolding_all rfl)))) (It.list (N10 hdl) (by omega) (by omega) g2' (by intro _; with_unfolding_all rfl))) Evs.nil))) ?_
   refine' B3u (num := P.n i) (data := (P.cmd i).data) (rows := rows) (late := []) (cuts := []) (X := X) (fs := []) hd (by omega) ?P ?hC ?hn ?hfa (I.pc.grow ?gg) I.rl I.ra .nil (by simp) (by omega) (by simp) ?_
   case P => exact Pick.cons E1 (Pick.cons E1 (Pick.cons E1 (Pick.cons E1 Pick.nil)))
   case hC => exact Cut.cons (Cut.cons (Cut.cons (Cut.cons (Cut.cons (Cut.cons Cut.nil)))))
   case hn => exact N6 hn
   case hfa => exact N6 hfa
   case gg => exact Grow.cons (Grow.cons (Grow.cons (Grow.cons (Grow.cons (Grow.cons Grow.refl)))))
   intro X' lv' av' la' rows' late' lo2 ts' tl' g h1 h2 h3
   simp only [List.cons_append, List.nil_append]
   refine ⟨trivial, ?_⟩
   have hfx := fx.grow g
   have hI := I.sent g h1 h2 h3 ⟨i, by omega, by omega, rfl, rfl⟩
   obtain ⟨⟨x, hx, rfl⟩, rfl⟩ := h3.calm (by simp) rfl rfl
   obtain rfl := h2.nil_of
   skip
   refine A4f (a := 0) (n := 2) (by decide) (by decide) (by decide) (fun v vs L => ∃ L', Sub ((it, itR 0 3 (j + 1)) :: L') L ∧ ((v = 0 ∧ ∃ x : Row, x.msg = .req (P.n i) (P.cmd i).data ∧ St17 P w sc a9 n nd m md s sd nw ba nl dl wl sl nu se du kp nv dv wv sv xs (6 + 2 * j + 1) (rows ++ [x]) p vs L') ∨ (v = 1 ∧ ∃ x : Row, x.msg = .ans (P.n i) (P.want i) ∧ St17 P w sc a9 n nd m md s sd nw ba nl dl wl sl nu se du kp nv dv wv sv xs (6 + 2 * j + 2) (rows ++ [x]) p vs L') ∨ (v = 2 ∧ St17 P w sc a9 n nd m md s sd nw ba nl dl wl sl nu se du kp nv dv wv sv xs (6 + 2 * j + 2) rows (p + 1) vs L'))) ?H2 ?turn2 ?done2 (by intro _; rfl) (by intro _ _; rfl)
   case H2 =>
    refine rC' (Eb A4i (LawCx.gl Lx) M3) Callee.ty rfl rfl ?_
    refine A0k Ar.con (fun _ => ?_)
    refine A0d ?_
    refine A3e (fun _ _ _ => ?_)
    exact Stop.mk ⟨_, _, _, _, rfl, List.mem_cons_self, _, by exact Sub.cons E5 (Sub.cons E1 (Sub.cons E1 (Sub.cons E1 (Sub.cons E1 (Sub.cons E1 (Sub.cons E1 (Sub.cons E1 (Sub.cons E1 (Sub.cons E1 (Sub.skip Sub.refl)))))))))), .inl ⟨rfl, x, hx, ⟨_, _, _, _, _, _, _, _, _, _, _, _, _, _, _, _, _, _, _, _, _, _, _, _, _, _, _, _, _, _, _, _, _, _, _, _, _, _, hfx, hI⟩⟩⟩
   case done2 =>
    rintro vs L2 ⟨L9, sb2, h | h | ⟨_, h⟩⟩
    ·exact absurd h.1 (by decide)
    ·exact absurd h.1 (by decide)
    ·refine A0a ?_
     refine A0a ?_
     refine A0n ?_
     dsimp only
     exact ⟨_, sb2, _, .refl, rows, p + 1, h, hall, by omega, by omega⟩
   case turn2 =>
    clear I hI hfx fx h1 h2 h3 hx x lv' lo2 ts' tl' la' g hn hfa hm hs hnl hdl hwl hsl hnu hlr hlen X X' sb
    rintro v t2 vs L2 it2 hv ⟨L9, sb2, ⟨rfl, x, hx, x9, i9, k9, w9, e9, o9, c9, f9, y8, t9, t10, y9, l9, m9, z9, fa, ly, la, cu, sn, lo, hi, c, tmv, lst, ts, tl, tp, th, tc, ta, ttm, tcq, tls, lv, bv, kvs, X, fx, I⟩ | ⟨rfl, x, hx, x9, i9, k9, w9, e9, o9, c9, f9, y8, t9, t10, y9, l9, m9, z9, fa, ly, la, cu, sn, lo, hi, c, tmv, lst, ts, tl, tp, th, tc, ta, ttm, tcq, tls, lv, bv, kvs, X, fx, I⟩ | h⟩
    ·refine Run.sub (Sub.cons .head sb2) ?_
     obtain ⟨hn, hfa, hm, hs, hnl, hdl, hwl, hsl, hnu⟩ := id fx
     have hlr := I.rl.length
     have hlen := I.len
     simp only [List.length_append, List.length_cons, List.length_nil] at hlr hlen
     dsimp only [LV]
     refine A0b V24 ?_
     refine xIf ?_
     refine A5n ?_
     refine A2t rfl ?_
     refine rC' (Eg A2l (LawCx.gl Lx) M11) (Callee.fn A5d) rfl rfl ?_
     refine A0m (En M5) ?_
     refine A0m (En M6) ?_
     refine A0A rfl ?_
     refine rM' (En M5) (Gm.inst (N11 hn) M2 A3a rfl) rfl rfl rfl ?_
     refine A0k (Ar.neg Ar.con) (fun _ => ?_)
     refine A0d ?_
     refine' B0M (rows := rows ++ [x]) (cuts := []) (Z := X) hd (by omega) ?P ?hC ?hn (I.pc.grow ?gg) I.rl (by omega) ?_
     (case P => exact Pick.cons E2 (Pick.cons E2 (Pick.cons E3 Pick.nil))); (case hC => exact Cut.cons (Cut.cons (Cut.cons (Cut.cons (Cut.cons (Cut.cons (Cut.cons (Cut.cons Cut.nil)))))))); (case hn => exact N8 hn); (case gg => exact Grow.cons (Grow.cons (Grow.cons (Grow.cons (Grow.cons (Grow.cons (Grow.cons (Grow.cons Grow.refl))))))))
     intro v lv2 rows2 lo2 tl2 ht
     obtain ⟨hr2, m1, rfl, hmsg⟩ := A7k ht
     rw [hx] at hmsg
     have I2 := I.taken hr2 (fun y hy => List.mem_append_left _ hy) (by simp)
     refine A0m (En M7) ?_
     refine A0m (En M9) ?_
     refine A0m (En M10) ?_
     refine A0m (En M17) ?_
     refine A0d ?_
     refine' B3k (P := P) (b := 6 + 2 * j + 1) (X := X) (i := i) (fs := []) (dv := dv) hd (by omega) hnd hw ?Pk ?hC ?hn ?hfa ?hmi ?hs lo' ?hnl ?hwl ?hsl hP h4 I2 (by omega) .nil (by simp) (by omega) (by omega) ?hm ?_
     (case Pk => exact Pick.cons E0 (Pick.cons E0 (Pick.cons E3 (Pick.cons E0 (Pick.cons E2 (Pick.cons E2 (Pick.cons E2 (Pick.cons E2 (Pick.cons E2 Pick.nil))))))))); (case hC => exact Cut.cons (Cut.cons Cut.nil)); (case hn => exact N2 hn); (case hfa => exact N2 hfa); (case hmi => exact N2 hm); (case hs => exact N2 hs); (case hnl => exact N2 hnl); (case hwl => exact N2 hwl); (case hsl => exact N2 hsl)
     case hm => exact ReqIn.mono (by exact Grow.cons (Grow.cons Grow.refl)) hmsg
     intro X' lv3 av3 la3 rows3 late3 lo3 ts3 tl3 kvs1 bv1 la1 ta1 tt1 tc1 tl1 th' tcc rep g hI hrep hsent
     simp only [List.cons_append, List.nil_append]
     have hfx := fx.grow g
     obtain ⟨⟨x3, hx3, rfl⟩, rfl⟩ := hsent.calm (by simp) rfl rfl
     obtain rfl := hI.ra.nil_of
     obtain rfl := hrep (by have := I.hp; omega)
     refine A0c ?_
     refine A0R rfl ?_
     refine A0a ?_
     refine A0a ?_
     refine A0n ?_
     dsimp only
     exact ⟨_, by exact Sub.cons E9 (Sub.cons E9 Sub.refl), _, .refl, .inr (.inl ⟨by first | exact trivial | rfl, x3, hx3, ⟨_, _, _, _, _, _, _, _, _, _, _, _, _, _, _, _, _, _, _, _, _, _, _, _, _, _, _, _, _, _, _, _, _, _, _, _, _, _, hfx, hI⟩⟩)⟩
    ·refine Run.sub (Sub.cons .head sb2) ?_
     obtain ⟨hn, hfa, hm, hs, hnl, hdl, hwl, hsl, hnu⟩ := id fx
     have hlr := I.rl.length
     have hlen := I.len
     simp only [List.length_append, List.length_cons, List.length_nil] at hlr hlen
     dsimp only [LV]
     refine A0b V24 ?_
     refine xIf ?_
     refine A5n ?_
     refine A2t rfl ?_
     refine rC' (Eg A2l (LawCx.gl Lx) M11) (Callee.fn A5d) rfl rfl ?_
     refine A0m (En M5) ?_
     refine A0m (En M6) ?_
     refine A0A rfl ?_
     refine rM' (En M5) (Gm.inst (N11 hn) M2 A3a rfl) rfl rfl rfl ?_
     refine A0k (Ar.neg Ar.con) (fun _ => ?_)
     refine A0d ?_
     refine' B0M (rows := rows ++ [x]) (cuts := []) (Z := X) hd (by omega) ?P ?hC ?hn (I.pc.grow ?gg) I.rl (by omega) ?_
     (case P => exact Pick.cons E2 (Pick.cons E2 (Pick.cons E3 Pick.nil))); (case hC => exact Cut.cons (Cut.cons (Cut.cons (Cut.cons (Cut.cons (Cut.cons (Cut.cons (Cut.cons Cut.nil)))))))); (case hn => exact N8 hn); (case gg => exact Grow.cons (Grow.cons (Grow.cons (Grow.cons (Grow.cons (Grow.cons (Grow.cons (Grow.cons Grow.refl))))))))
     intro v lv2 rows2 lo2 tl2 ht
     obtain ⟨hr2, m1, rfl, hmsg⟩ := A7k ht
     have hok := I.ok x (by simp)
     rw [hx] at hmsg hok
     obtain ⟨i2, hi2, hnum, hctx⟩ := hok
     have h22 := I.h2
     obtain rfl := P.inj hP (by omega) (by omega) hnum
     have I2 := I.taken hr2 (fun y hy => List.mem_append_left _ hy) (by simp)
     refine A0m (En M7) ?_
     refine A0m (En M9) ?_
     refine A0m (En M10) ?_
     refine A0m (En M17) ?_
     refine A0d ?_
     refine' B0K (P := P) (i := i) (ctx := P.want i) (dv := dv) (sv := sv) hd (by omega) ?Ps ?hnl ?hwl hP h4 ?hm (.inl rfl) I.h2 I.p3 I.hp hi2 ?_
     case Ps => exact Pick.cons E6 Pick.nil
     case hnl => exact N10 hnl
     case hwl => exact N10 hwl
     case hm => exact AnsIn.mono (by exact Grow.cons (Grow.cons (Grow.cons (Grow.cons (Grow.cons (Grow.cons (Grow.cons (Grow.cons (Grow.cons (Grow.cons Grow.refl)))))))))) hmsg
     intro p' tp' hp'
     have hI := I2.ans hi2 hp'
     rw [if_pos hi'.symm] at hp'
     subst hp'
     have hfx := fx
     refine A0c ?_
     refine A0R rfl ?_
     refine A0a ?_
     refine A0a ?_
     refine A0n ?_
     dsimp only
     exact ⟨_, by exact Sub.cons E4 (Sub.cons E4 (Sub.cons E1 (Sub.cons E1 (Sub.cons E2 (Sub.cons E1 Sub.refl))))), _, .refl, .inr (.inr ⟨by first | exact trivial | rfl, ⟨_, _, _, _, _, _, _, _, _, _, _, _, _, _, _, _, _, _, _, _, _, _, _, _, _, _, _, _, _, _, _, _, _, _, _, _, _, _, hfx, hI⟩⟩)⟩
    ·exact absurd h.1 (by omega)
  ·have hI := I.b (b' := 6 + 2 * (j + 1)) (by omega)
   have hfx := fx
   refine A0b V19 ?_
   refine xIf ?_
   refine A0g (Ar.val (Ei (En M17) Ar.con (It.list M5 (by decide) (by decide) rfl (by intro _; with_unfolding_all rfl)))) Ar.con rfl Ci.lt ?_
   refine A0R (by fail "c3") ?_
   refine A0a ?_
   refine A0a ?_
   refine A0n ?_
   dsimp only
   exact ⟨_, by exact Sub.refl, _, .refl, rows, p, ⟨_, _, _, _, _, _, _, _, _, _, _, _, _, _, _, _, _, _, _, _, _, _, _, _, _, _, _, _, _, _, _, _, _, _, _, _, _, _, hfx, hI⟩, hall, by omega, by omega⟩
end
end Mine
namespace Mine
section
variable {Γ : Cx} {led R C : Led} {ks : List (List Stmt)} {rest : List Stmt} {Q : Flow → A0e → Led → Prop} {k : Nat} {w : World}
theorem B6s {P : Plan} {sc a9 : Option Value} {n nd m md s sd nw ba nl dl wl sl nu se cb : Addr} {du kp : Value} {nv dv wv sv xs : List Value} {vs : A0e} {rows0 : List Row} (hd : Low Γ k) (hk : k ≤ 100) (Lx : LawCx Γ cb) (hw : Γ.w = w) (hP : P.Ok) (h4 : Is4 P 2 nv dv wv sv) (lo' : Ok nw)
  (J0 : St17 P w sc a9 n nd m md s sd nw ba nl dl wl sl nu se du kp nv dv wv sv xs 12 rows0 3 vs led) (ha0 : ∀ x ∈ rows0, x.msg.to = 2)
  (q : ∀ vs led, St17 P w sc a9 n nd m md s sd nw ba nl dl wl sl nu se du kp nv dv wv sv xs 12 [] 3 vs led → Do Γ vs led (rest :: ks) Q) :
  Do Γ vs led ((A3g A0p 18 :: rest) :: ks) Q := by
 have hdp := hd
 have hnd := Lx.nd
 have J1 := J0
 obtain ⟨x9, i9, k9, w9, e9, o9, c9, f9, y8, t9, t10, y9, l9, m9, z9, fa, ly, la, cu, sn, lo, hi, c, tmv, lst, ts, tl, tp, th, tc, ta, ttm, tcq, tls, lv, bv, kvs, X, fx, I⟩ := J0
 obtain ⟨hn, hfa, hm, hs, hnl, hdl, hwl, hsl, hnu⟩ := id fx
 have hlr := I.rl.length
 have hlen := I.len
 simp only [List.length_nil] at hlen
 refine A2P (s' := .For _ _ _ [] _) rfl ?_
 refine A4f (a := 0) (n := lv.length) (by decide) (by decide) (by omega) (fun j vs L => ∃ L', Sub L' L ∧ ∃ rows, St17 P w sc a9 n nd m md s sd nw ba nl dl wl sl nu se du kp nv dv wv sv xs 12 rows 3 vs L' ∧ (∀ x ∈ rows, x.msg.to = 2) ∧ rows.length + j = lv.length) ?H ?turn ?done (by intro _; rfl) (by intro _ _; rfl)
 case done =>
  rintro vs L' ⟨L9, sb, rows, h, ha, hl⟩
  obtain rfl : rows = [] := List.eq_nil_of_length_eq_zero (by omega)
  exact Do.sub sb (q _ _ h)
 case H =>
  dsimp only [LV]
  refine rC' (Eb A4i (LawCx.gl Lx) M3) Callee.ty rfl rfl ?_
  refine A0A rfl ?_
  refine rM (En M5) (Gm.inst (N9 hn) M0 A8e rfl) Evs.nil rfl ?_
  refine B9W hdp (up0 hk rfl) (N9 hn) M0 M1 (by omega) (fun _ => ?_)
  refine A0d ?_
  refine A3e (fun _ _ _ => ?_)
  rw [show (0 : Int) + (lv.length : Int) = (lv.length : Int) from Int.zero_add _]
  exact Stop.mk ⟨_, _, _, _, rfl, List.mem_cons_self, _, .skip .refl, rows0, J1, ha0, by omega⟩
 case turn =>
  generalize lv.length = N at *
  clear I fx J1 hn hfa hm hs hnl hdl hwl hsl hnu
  rintro j t0 vs L' it hj ⟨L9, sb, rows, ⟨x9, i9, k9, w9, e9, o9, c9, f9, y8, t9, t10, y9, l9, m9, z9, fa, ly, la, cu, sn, lo, hi, c, tmv, lst, ts, tl, tp, th, tc, ta, ttm, tcq, tls, lv, bv, kvs, X, fx, I⟩, hall, hl⟩
  refine Run.sub (sb.cons .head) ?_
  obtain ⟨hn, hfa, hm, hs, hnl, hdl, hwl, hsl, hnu⟩ := id fx
  have hlr := I.rl.length
  have hlen := I.len
  simp only [List.length_nil] at hlen
  dsimp only [LV]
  cases rows with
  | nil => simp only [List.length_nil] at hl; omega
  | cons x rows =>
   refine A0b V19 ?_
   refine xIf ?_
   refine A5n ?_
   refine A2t rfl ?_
   refine rC' (Eg A2l (LawCx.gl Lx) M11) (Callee.fn A5d) rfl rfl ?_
   refine A0m (En M5) ?_
   refine A0m (En M6) ?_
   refine A0A rfl ?_
   refine rM' (En M5) (Gm.inst (N10 hn) M1 A3a rfl) rfl rfl rfl ?_
   refine A0k Ar.con (fun _ => ?_)
   refine A0d ?_
   refine' B0M (rows := x :: rows) (cuts := []) (Z := X) hd (by omega) ?P ?hC ?hn (I.pc.grow ?gg) I.rl (by omega) ?_
   (case P => exact Pick.cons E1 (Pick.cons E1 (Pick.cons E2 Pick.nil))); (case hC => exact Cut.cons (Cut.cons (Cut.cons (Cut.cons (Cut.cons (Cut.cons (Cut.cons Cut.nil))))))); (case hn => exact N7 hn); (case gg => exact Grow.cons (Grow.cons (Grow.cons (Grow.cons (Grow.cons (Grow.cons (Grow.cons Grow.refl)))))))
   intro v lv2 rows2 lo2 tl2 ht
   obtain ⟨hr2, m1, rfl, hmsg⟩ := A9d ht
   have hok := I.ok x (by simp)
   have hto := hall x (.head _)
   have h22 := I.h2
   have I2 := I.taken hr2 (fun y hy => List.mem_cons_of_mem _ hy) (by simp)
   obtain ⟨num9, M⟩ := x
   cases M with
   | req num data => exact absurd hto (by show ¬ ((1 : Int) = 2); decide)
   | ans num ctx =>
    obtain ⟨i, hih, rfl, hctx⟩ := hok
    refine A0m (En M7) ?_
    refine A0m (En M9) ?_
    refine A0m (En M10) ?_
    refine A0m (En M17) ?_
    refine A0d ?_
    refine' B0K (P := P) (i := i) (ctx := ctx) (dv := dv) (sv := sv) hd (by omega) ?Ps ?hnl ?hwl hP h4 ?hm hctx I.h2 I.p3 I.hp hih ?_
    case Ps => exact Pick.cons E5 Pick.nil
    case hnl => exact N9 hnl
    case hwl => exact N9 hwl
    case hm => exact AnsIn.mono (by exact Grow.cons (Grow.cons (Grow.cons (Grow.cons (Grow.cons (Grow.cons (Grow.cons (Grow.cons (Grow.cons Grow.refl))))))))) hmsg
    intro p' tp' hp'
    have hI := I2.ans hih hp'
    rw [if_neg (by omega)] at hp'
    subst hp'
    have hfx := fx
    refine A0c ?_
    refine A0R rfl ?_
    refine A0a ?_
    refine A0a ?_
    refine A0n ?_
    dsimp only
    exact ⟨_, by exact Sub.cons E4 (Sub.cons E1 (Sub.cons E1 (Sub.cons E2 (Sub.cons E1 Sub.refl)))), _, .refl, rows, ⟨_, _, _, _, _, _, _, _, _, _, _, _, _, _, _, _, _, _, _, _, _, _, _, _, _, _, _, _, _, _, _, _, _, _, _, _, _, _, hfx, hI⟩, fun y hy => hall y (.tail _ hy), by simp only [List.length_cons] at hl; omega⟩
end
end Mine
namespace Mine
section
variable {Γ : Cx} {vs : A0e} {led : Led} {Q : Value → A0e → Led → Prop} {k : Nat}
inductive EqL (led : Led) (n : Nat) : List Value → List Value → Prop
 | nil : EqL led n [] []
 | cons {x y : Value} {xs ys : List Value} : EqV led n x y → EqL led n xs ys → EqL led n (x :: xs) (y :: ys)
theorem EqL.len {n : Nat} {xs ys : List Value} (h : EqL led n xs ys) : xs.length = ys.length := by
 induction h with
 | nil => rfl
 | cons _ _ ih => simp [ih]
theorem EqL.at {n : Nat} {xs ys : List Value} (h : EqL led n xs ys) : ∀ (j : Nat) (x y : Value), xs[j]? = some x → ys[j]? = some y → EqV led n x y := by
 induction h with
 | nil => intro j x y h; simp at h
 | cons h _ ih =>
  intro j x y h1 h2
  cases j with
  | zero => simp at h1 h2; subst h1 h2; exact h
  | succ j => simp at h1 h2; exact ih j x y h1 h2
theorem EqV.flat {n : Nat} {v w : Value} (h : FlatEq v w) : EqV led n v w := by
 cases n with
 | zero => exact h
 | succ n => exact .inl h
theorem EqV.int {n : Nat} {i : Int} {t u : Tok} : EqV led n (.int i t) (.int i u) := EqV.flat (.inl ⟨_, _, _, rfl, rfl⟩)
theorem EqV.bool {n : Nat} {b : Bool} : EqV led n (.bool b) (.bool b) := EqV.flat (.inr (.inl ⟨_, rfl, rfl⟩))
theorem EqV.bytes {n : Nat} {b : Array UInt8} {t u : Tok} : EqV led n (.bytes b t) (.bytes b u) := EqV.flat (.inr (.inr ⟨_, _, _, rfl, rfl⟩))
theorem EqV.tup {n : Nat} {p q : Addr} {xs ys : List Value} (h1 : (p, LObj.tup xs) ∈ led) (h2 : (q, LObj.tup ys) ∈ led) (h : EqL led n xs ys) : EqV led (n + 1) (.ref p) (.ref q) := .inr ⟨p, q, xs, ys, rfl, rfl, h1, h2, h.len, h.at⟩
theorem B3l {p q : Addr} {xs ys : List Value} (hd : Low Γ k) (hk : k ≤ 500) (h1 : (p, LObj.tup xs) ∈ led) (h2 : (q, LObj.tup ys) ∈ led) (h : EqL led 2 xs ys) (q' : Q (.bool true) vs led) : Run Γ vs led (compareOp .Eq (.ref p) (.ref q)) Q :=
 B9I (n := 2) (by decide) (hd.units (by omega)) h1 h2 h.len h.at q'
end
section
variable {Γ : Cx} {led R C : Led} {ks : List (List Stmt)} {rest : List Stmt} {Q : Flow → A0e → Led → Prop} {k : Nat} {w : World}
theorem B6r {P : Plan} {sc a9 : Option Value} {n nd m md s sd nw ba nl dl wl sl nu se cb : Addr} {du kp : Value} {nv dv wv sv xs : List Value} {vs : A0e} (hd : Low Γ k) (hk : k ≤ 100) (Lx : LawCx Γ cb) (hw : Γ.w = w) (hP : P.Ok) (h4 : Is4 P 2 nv dv wv sv) (lo' : Ok nw)
  (J0 : St17 P w sc a9 n nd m md s sd nw ba nl dl wl sl nu se du kp nv dv wv sv xs 12 [] 3 vs led)
  (q : ∀ vs led, Q (.ret (.bool true)) vs led) :
  Do Γ vs led ((A3g A0p 19 :: A3g A0p 20 :: A3g A0p 21 :: A3g A0p 22 :: []) :: ks) Q := by
 have hdp := hd
 have hnd := Lx.nd
 obtain ⟨x9, i9, k9, w9, e9, o9, c9, f9, y8, t9, t10, y9, l9, m9, z9, fa, ly, la, cu, sn, lo, hi, c, tmv, lst, ts, tl, tp, th, tc, ta, ttm, tcq, tls, lv, bv, kvs, X, fx, I⟩ := J0
 obtain ⟨hn, hfa, hm, hs, hnl, hdl, hwl, hsl, hnu⟩ := id fx
 obtain rfl : hi = 2 := by have h1 := I.h2; have h2 := I.ph; omega
 obtain rfl := I.rl.nil_of
 obtain rfl := I.tm1 (by decide)
 obtain ⟨tab, T, hkv⟩ := I.tab
 obtain ⟨hg, hgd⟩ := T.some 2 rfl
 have hn2 := Plan.lt10 hP (i := 2) (by decide)
 have hwl2 := P.want_len 2
 have htl := T.neat.len
 have hf : (tab.map (·.1)).filter (inr [115] [116]) = [sk] := T.neat.only B6D (A6J.mpr ⟨_, hg⟩)
 obtain ⟨⟨u1, g1⟩, _, ⟨u3, g3⟩, ⟨u4, g4⟩⟩ := h4.at' 2 (Nat.le_refl _)
 have g1' : nv[(2 : Int).toNat]? = some (.int (P.n 2) u1) := g1
 have g3' : wv[(2 : Int).toNat]? = some (.bytes (P.want 2).toArray u3) := g3
 have g4' : sv[(2 : Int).toNat]? = some (obl (P.st 2) u4) := g4
 dsimp only [LV]
 refine A2P (s' := .If _ _ _ _) rfl ?_
 refine xIf ?_
 refine tOr ?_
 refine A0g (Ar.val (Ei (En M17) Ar.con (It.list M4 (by decide) (by decide) rfl (by intro _; with_unfolding_all rfl)))) Ar.con rfl Ci.ne ?_
 refine A1D rfl ?_
 refine tOr ?_
 refine A0g (Ar.val (Ei (En M17) Ar.con (It.list M4 (by decide) (by decide) rfl (by intro _; with_unfolding_all rfl)))) Ar.con rfl Ci.ne ?_
 refine A1D rfl ?_
 refine tOr ?_
 refine A5n ?_
 refine A2t rfl ?_
 refine rM (En M5) (Gm.inst (N9 hn) M0 A7p rfl) Evs.nil rfl ?_
 refine B9U hdp (up0 hk rfl) (N9 hn) M0 M1 M2 ?_
 refine A0c ?_
 refine A1D rfl ?_
 refine tOr ?_
 refine B5d rfl ?_
 refine rM' (En M5) (Gm.inst (N9 hn) M0 A3a rfl) rfl rfl rfl ?_
 refine A0k Ar.con (fun _ => ?_)
 refine A0d ?_
 refine' B0M (rows := []) (cuts := []) (Z := X) hd (by omega) ?P ?hC ?hn (I.pc.grow ?gg) I.rl (by simp) ?_
 (case P => exact Pick.cons E0 (Pick.cons E0 (Pick.cons E1 Pick.nil))); (case hC => exact Cut.cons (Cut.cons (Cut.cons (Cut.cons (Cut.cons (Cut.cons Cut.nil)))))); (case hn => exact N6 hn); (case gg => exact Grow.cons (Grow.cons (Grow.cons (Grow.cons (Grow.cons (Grow.cons Grow.refl))))))
 intro v lv2 rows2 lo2 tl2 ht
 obtain rfl := A9N ht
 clear ht
 refine rE Eo ?_
 refine kCm Cm.noNN ?_
 refine A1D rfl ?_
 refine A0W ?_
 refine A0R rfl ?_
 refine A0a ?_
 refine A2P (s' := .Assign [.Name _ _] _ _) rfl ?_
 cases hst : P.st 2 with
 | none =>
  rw [hst] at g4' hgd
  replace g4' : sv[(2 : Int).toNat]? = some .none := g4'
  have hf0 : (tab.map (·.1)).filter (inr [100] [101]) = [] := T.neat.none B2N (fun h => by obtain ⟨v, hv⟩ := A6J.mp h; rw [hgd] at hv; cases hv)
  refine xAs rfl ?_
  refine A8D ?_
  refine A0A rfl ?_
  refine A6s ?_
  refine A0A rfl ?_
  refine A1I (fun _ => ?_)
  refine A0m (Ei (En M10) Ar.con (It.list (N9 hsl) (by decide) (by decide) g4' (by intro _; with_unfolding_all rfl))) ?_
  refine A0d ?_
  refine A0q (by fail "c3") (fun _ => ?_)
  refine A0d ?_
  refine A0o (by fail "c3") (fun _ => ?_)
  refine kAs V25 ?_
  refine A2P (s' := .If _ _ _ _) rfl ?_
  refine xIf ?_
  refine A1K (Ei (En M10) Ar.con (It.list (N11 hsl) (by decide) (by decide) g4' (by intro _; with_unfolding_all rfl))) Eo rfl Cm.isNN ?_
  refine A2s rfl ?_
  refine xAs rfl ?_
  refine A3r Evs.nil ?_
  refine A0o (by decide) (fun _ => ?_)
  refine kAs V25 ?_
  refine A0a ?_
  refine A2P (s' := .Return (some _) _) rfl ?_
  refine A1U ?_
  refine B3L rfl ?_
  refine rM (En M6) (Gm.inst (N12 hm) M8 A4r rfl) Evs.nil rfl ?_
  refine B4I hdp (up0 hk rfl) hw (N12 hm) M8 (N12 hs) M9 M10 lo' hkv (by omega) hf0 hf hg (by omega) (by omega) (by omega) (fun _ _ _ _ _ _ _ _ _ _ _ _ => ?_)
  refine A6s ?_
  refine A0m (Ei (En M17) Ar.con (It.list (N1 (Grow.mem (by assumption) M7)) (by decide) (by decide) rfl (by intro _; with_unfolding_all rfl))) ?_
  refine A0k Ar.con (fun _ => ?_)
  refine A0A rfl ?_
  refine A1I (fun _ => ?_)
  refine A0A rfl ?_
  refine rC (Eb A4h (LawCx.gl Lx) M12) Callee.ty (Evs.cons (En M25) Evs.nil) ?_
  refine A1V (N1 (Grow.mem (by assumption) M0)) (by decide) (fun _ => ?_)
  refine A0A rfl ?_
  refine A6s ?_
  refine A0A rfl ?_
  refine A6s ?_
  refine A0k Ar.con (fun _ => ?_)
  refine A0m (Ei (En M7) Ar.con (It.list (N2 (Grow.mem (by assumption) (N12 hnl))) (by decide) (by decide) g1' (by intro _; with_unfolding_all rfl))) ?_
  refine A0m Et ?_
  refine A0m (Ei (En M9) Ar.con (It.list (N2 (Grow.mem (by assumption) (N12 hwl))) (by decide) (by decide) g3' (by intro _; with_unfolding_all rfl))) ?_
  refine A0d ?_
  refine A0q (by fail "c3") (fun _ => ?_)
  refine A0d ?_
  refine A0q (by fail "c3") (fun _ => ?_)
  refine A0d ?_
  refine A0q (by fail "c3") (fun _ => ?_)
  refine' B3l hd (by omega) ?m1 ?m2 (.cons .int (.cons .int (.cons .bytes (.cons (.tup ?m3 ?m4 .nil) (.cons (.tup ?m5 ?m6 (.cons (.tup ?m7 ?m8 (.cons .int (.cons .int (.cons .bool (.cons .bytes .nil))))) .nil)) .nil))))) (q _ _)
  case m1 => exact M4
  case m2 => exact M0
  case m3 => exact N5 (by assumption)
  case m4 => exact M3
  case m5 => exact N5 (by assumption)
  case m6 => exact M1
  case m7 => exact N5 (by assumption)
  case m8 => exact M2
 | some val =>
  rw [hst] at g4' hgd
  replace g4' : sv[(2 : Int).toNat]? = some (.bytes val.toArray u4) := g4'
  have hf0 : (tab.map (·.1)).filter (inr [100] [101]) = [dk] := T.neat.only B2N (A6J.mpr ⟨_, hgd⟩)
  refine xAs rfl ?_
  refine A8D ?_
  refine A0A rfl ?_
  refine A6s ?_
  refine A0A rfl ?_
  refine A1I (fun _ => ?_)
  refine A0m (Ei (En M10) Ar.con (It.list (N9 hsl) (by decide) (by decide) g4' (by intro _; with_unfolding_all rfl))) ?_
  refine A0d ?_
  refine A0q (by fail "c3") (fun _ => ?_)
  refine A0d ?_
  refine A0o (by fail "c3") (fun _ => ?_)
  refine kAs V25 ?_
  refine A2P (s' := .If _ _ _ _) rfl ?_
  refine xIf ?_
  refine A1K (Ei (En M10) Ar.con (It.list (N11 hsl) (by decide) (by decide) g4' (by intro _; with_unfolding_all rfl))) Eo rfl (Cm.isN (fun e => Value.noConfusion e)) ?_
  refine A0R rfl ?_
  refine A0a ?_
  refine A2P (s' := .Return (some _) _) rfl ?_
  refine A1U ?_
  refine B3L rfl ?_
  refine rM (En M6) (Gm.inst (N11 hm) M7 A4r rfl) Evs.nil rfl ?_
  refine B4H hdp (up0 hk rfl) hw (N11 hm) M7 (N11 hs) M8 M9 lo' hkv (by omega) hf0 hgd hf hg (by omega) (by omega) (by omega) (fun _ _ _ _ _ _ _ _ _ _ _ _ _ _ _ _ => ?_)
  refine A6s ?_
  refine A0m (Ei (En M17) Ar.con (It.list (N1 (Grow.mem (by assumption) M6)) (by decide) (by decide) rfl (by intro _; with_unfolding_all rfl))) ?_
  refine A0k Ar.con (fun _ => ?_)
  refine A0A rfl ?_
  refine A1I (fun _ => ?_)
  refine A0A rfl ?_
  refine rC (Eb A4h (LawCx.gl Lx) M12) Callee.ty (Evs.cons (En M25) Evs.nil) ?_
  refine A1V (N1 (Grow.mem (by assumption) M0)) (by fail "c1") (fun _ => ?_)
  refine A0A rfl ?_
  refine A6s ?_
  refine A0A rfl ?_
  refine A6s ?_
  refine A0k Ar.con (fun _ => ?_)
  refine A0m (Ei (En M7) Ar.con (It.list (N2 (Grow.mem (by assumption) (N11 hnl))) (by decide) (by decide) g1' (by intro _; with_unfolding_all rfl))) ?_
  refine A0m Et ?_
  refine A0m (Ei (En M9) Ar.con (It.list (N2 (Grow.mem (by assumption) (N11 hwl))) (by decide) (by decide) g3' (by intro _; with_unfolding_all rfl))) ?_
  refine A0d ?_
  refine A0q (by fail "c3") (fun _ => ?_)
  refine A0d ?_
  refine A0q (by fail "c3") (fun _ => ?_)
  refine A0d ?_
  refine A0q (by fail "c3") (fun _ => ?_)
  refine' B3l hd (by omega) ?m1 ?m2 (.cons .int (.cons .int (.cons .bytes (.cons (.tup ?m3 ?m4 (.cons (.tup ?n7 ?n8 (.cons .bytes (.cons .bytes .nil))) .nil)) (.cons (.tup ?m5 ?m6 (.cons (.tup ?m7 ?m8 (.cons .int (.cons .int (.cons .bool (.cons .bytes .nil))))) .nil)) .nil))))) (q _ _)
  case m1 => exact M4
  case m2 => exact M0
  case m3 => exact N5 (by assumption)
  case m4 => exact M3
  case m5 => exact N5 (by assumption)
  case m6 => exact M1
  case m7 => exact N5 (by assumption)
  case m8 => exact M2
  case n7 => exact N5 (by assumption)
  case n8 => exact N5 (Grow.mem (by assumption) M1)
end
end Mine
namespace Mine
section
variable {Γ : Cx} {led R C : Led} {ks : List (List Stmt)} {Q : Flow → A0e → Led → Prop} {k : Nat} {w : World}
theorem B4a {sc c : Addr} {xs0 : List Value} {ns0 : List Int} (hd : Low Γ k) (hk : k ≤ 100) (L : LawCx Γ c) (hsc : Γ.h₀.IsList sc xs0.toArray) (hi0 : IntsAre xs0 ns0) (hz0 : xs0.length ≤ 63) (q : ∀ vs led, Q (.ret (.bool true)) vs led) :
  Do Γ (LV (some (.ref sc)) none none none none none none none none none none none none none none none none none none none none none none none none none) ((c, .cell none) :: [])
   ((A3g A0p 0 :: A3g A0p 1 :: A3g A0p 2 :: A3g A0p 3 :: A3g A0p 4 :: A3g A0p 5 :: A3g A0p 6 :: A3g A0p 7 :: A3g A0p 8 :: A3g A0p 9 :: A3g A0p 10 :: A3g A0p 11 :: A3g A0p 12 :: A3g A0p 13 :: A3g A0p 14 :: A3g A0p 15 :: A3g A0p 16 :: A3g A0p 17 :: A3g A0p 18 :: A3g A0p 19 :: A3g A0p 20 :: A3g A0p 21 :: A3g A0p 22 :: []) :: ks) Q := by
 have hdp := hd
 refine B9o hd hk L rfl hsc hi0 hz0 fun nu xs ns hxi hxne hxz => ?_
 refine B9n hd hk L rfl hxi hxne hxz fun av bv n0 ta tb tn n nd fa ly la cu t1 t2 m md s sd nw ba kp t3 t4 t5 t6 t7 t8 t9 nl dl wl sl fv fs h0 h3 hfi hfz hok => ?_
 have hP := A7r (av := av) (bv := bv) h0 h3
 refine' B6w (n0 := n0) (bv := bv) (tb := tb) (nl := nl) (dl := dl) (wl := wl) (sl := sl) (nv := [.int n0 tn]) (dv := [.bytes (Cmd.opn n0).data.toArray t8]) (wv := [.bytes [0, 0].toArray t9]) (sv := [.none]) hd hk L rfl h0 h3 ?P ?hc (Is4.one (t1 := tn) (t2 := t8) (t3 := t9) (t4 := 0) A8g) ?_
 case P => exact Pick.cons E8 (Pick.cons E8 (Pick.cons E8 (Pick.cons E8 Pick.nil)))
 case hc => exact M13
 intro i9 k9 w9 e9 o9 c9 f9 nv dv wv sv h4
 dsimp only [LV]
 refine A2P (s' := .Assign [.Name _ _] _ _) rfl ?_
 refine xAs rfl ?_
 refine A8D ?_
 refine A0k Ar.con (fun _ => ?_)
 refine A0k (Ar.neg Ar.con) (fun _ => ?_)
 refine A0k Ar.con (fun _ => ?_)
 refine A0d ?_
 refine A0o (by fail "c3") (fun _ => ?_)
 refine kAs V17 ?_
 refine A2P (s' := .Assign [.Name _ _] _ _) rfl ?_
 refine xAs rfl ?_
 refine A3r (Evs.cons Et (Evs.cons Et Evs.nil)) ?_
 refine A0o (by decide) (fun _ => ?_)
 refine kAs V18 ?_
 rename_i u0 u2 u3 se wy
 have hfx : Fix [(nl, LObj.list nv), (dl, .list dv), (wl, .list wv), (sl, .list sv), (n, .inst 747 nd), (fa, .list fv), (m, .inst 1055 md), (s, .inst 1132 sd), (nu, .list xs), (c, .cell (some (.int bv tb)))] n nd fa m md s sd nl dl wl sl nu fv nv dv wv sv xs := by
  refine' ⟨?a1, ?a2, ?a3, ?a4, ?a5, ?a6, ?a7, ?a8, ?a9⟩
  case a1 => exact M4
  case a2 => exact M5
  case a3 => exact M6
  case a4 => exact M7
  case a5 => exact M0
  case a6 => exact M1
  case a7 => exact M2
  case a8 => exact M3
  case a9 => exact M8
 have hI : Inv (A0D av bv n0) [(nl, LObj.list nv), (dl, .list dv), (wl, .list wv), (sl, .list sv), (n, .inst 747 nd), (fa, .list fv), (m, .inst 1055 md), (s, .inst 1132 sd), (nu, .list xs), (c, .cell (some (.int bv tb)))] 0 [] [] [] [] [] [] [] 0 (-1) 0 0 [] :=
  { rl := .nil, ra := .nil, pc := .nil, ok := nofun, len := by simp, clen := by simp, p0 := by decide, p3 := by decide, hp := by decide, ph := by decide, h2 := by decide, hm := by decide, c0 := by decide, cb := by simp, tab := ⟨[], TabAt.nil _, .nil⟩, bl := by simp, tm1 := by decide }
 have h13 : St13 (A0D av bv n0) Γ.w (some (.ref sc)) (some (.int av ta)) n nd fa ly m md s sd nw ba nl dl wl sl nu se (.int 0 t5) kp fv nv dv wv sv xs 0 _ _ :=
  ⟨none, i9, k9, w9, e9, o9, c9, f9, none, none, none, none, none, la, cu, wy, 0, 0, 0, -1, 0, 0, 0, t1, t2, u0, u2, u3, t3, t4, t6, t7, [], [], [], [], [], [], [], [], true, true, _, hfx, hI, by simp, by simp⟩
 refine' Do.sub ?sb (B6v hd hk L rfl hP h4 hok hfi hfz hxi hxne hxz h13 fun vs led h14 => B6u hd hk L rfl h14 fun vs led rows p h17 ha hp0 hp3 => B6t hd hk L rfl hP h4 hok h17 ha hp0 hp3 fun vs led rows h18 ha => B6s hd hk L rfl hP h4 hok h18 ha fun vs led h19 => B6r hd hk L rfl hP h4 hok h19 q)
 case sb => (refine' Sub.cons ?se ?ss; (case se => exact E6); (case ss => (refine' Sub.cons ?se ?ss; (case se => exact E6); (case ss => (refine' Sub.cons ?se ?ss; (case se => exact E6); (case ss => (refine' Sub.cons ?se ?ss; (case se => exact E6); (case ss => (refine' Sub.cons ?se ?ss; (case se => exact E1); (case ss => (refine' Sub.cons ?se ?ss; (case se => exact E5); (case ss => (refine' Sub.cons ?se ?ss; (case se => exact E5); (case ss => (refine' Sub.cons ?se ?ss; (case se => exact E5); (case ss => (refine' Sub.cons ?se ?ss; (case se => exact E5); (case ss => exact Sub.refl))))))))))))))))))
end
end Mine
namespace Mine
theorem B0h {Γ : Cx} {sc c : Addr} {xs : List Value} {ns : List Int} (hd : Low Γ 0) (L : LawCx Γ c) (hsc : Γ.h₀.IsList sc xs.toArray) (hi : IntsAre xs ns) (hz : xs.length ≤ 63) :
  Do Γ (LV (some (.ref sc)) none none none none none none none none none none none none none none none none none none none none none none none none none) ((c, .cell none) :: []) [A0p] fun fl _ _ => A2b fl = .bool true :=
 B4a (ks := []) (Q := fun fl _ _ => A2b fl = .bool true) hd (by decide) L hsc hi hz (fun _ _ => rfl)
end Mine
theorem PySem.Challenge.cw_nz0379_01_holds : PySem.Challenge.rw_nz0379_01.Holds :=
 Mine.head fun _ _ _ _ _ hd L hsc hi hz => Mine.B0h hd L hsc hi hz
