import PyProof.Rows.All
import Wide.All
import OpenK.AllK
import Wide.FinOn
import KE.KDeep
import KE.KFind
import KE.KxBytes
import KE.LcTurns
import KE.KDictObj
import KE.BytesMake
import OpenK.ZBase
import Lean
import PySem.Challenge.RW_xw0354_01
set_option linter.all false
set_option Elab.async false
set_option maxRecDepth 1000000

set_option maxRecDepth 100000
set_option maxHeartbeats 0
namespace Mine
open PySem PySem.W PySem.Calls PyProof.Rows
noncomputable def vn : Value := .none
noncomputable def vi (i : Int) : Value := .int i 0
noncomputable def ss (s : String) : Str := Str.ofString s
noncomputable def vs (s : String) (t : Nat) : Value := .str (Str.ofString s) t
noncomputable def vr (a : Addr) : Value := .ref a
noncomputable def vt (s : String) : Value := .type s
noncomputable def vb (s : String) : Value := .builtin s
noncomputable def sq (l : List Value) (n : Nat) : Data := .seq ⟨l⟩ n
noncomputable def dc (l : List DictEntry) (n : Nat) : Data := .dict ⟨l⟩ n
noncomputable def fl (l : List Value) : Data := .fields ⟨l⟩
noncomputable def tu (l : List Value) : Obj := ⟨.type "tuple", none, .seq ⟨l⟩ 0, #[]⟩
noncomputable def cO (l : List Value) : Obj := ⟨.type "code", none, .fields ⟨l⟩, #[]⟩
noncomputable def ob (c : Value) (d : Data) : Obj := ⟨c, none, d, #[]⟩
noncomputable def en (P : Params) (s : String) (t : Nat) (v : Value) : DictEntry := ⟨PyData.keyHash P (Str.ofString s), .str (Str.ofString s) t, v⟩
noncomputable def nthS (l : List Stmt) : Nat → Stmt := @List.rec Stmt (fun _ => Nat → Stmt) (fun _ => .Pass default) (fun x _ ih n => n.casesOn x ih) l
noncomputable def clsB : Stmt → List Stmt
 | .ClassDef _ _ _ b _ _ _ _ _ _ _ => b
 | _ => []
noncomputable def body0 : List Stmt := PySem.Challenge.pw_xw0354_01.main.body
noncomputable def tS (i : Nat) : Stmt := nthS body0 i
noncomputable def cS (i j : Nat) : Stmt := nthS (clsB (tS i)) j
noncomputable def fO (st : Stmt) (q : String) (g : Addr) (d k doc m c : Value) : Data := match st with
 | .FunctionDef n a b _ _ _ sc _ _ _ => .func { name := n, qualname := Str.ofString q, params := a, body := .stmts b, scope := sc, globals := g, closure := [], defaults := d, kwdefaults := k, doc := doc, pyModule := m, code := c }
 | _ => .plain
noncomputable def e3 (P : Params) : List DictEntry := [(en P "__doc__" 166 vn), (en P "__package__" 167 vn), (en P "__loader__" 168 (vb "__main__.__loader__#opaque")), (en P "__spec__" 169 vn), (en P "__annotations__" 170 (vr 6)), (en P "__builtins__" 171 (vr 4)), (en P "__file__" 173 (vs "/claim/cut.py" 172)), (en P "__cached__" 174 vn), (en P "_wall" 193 (vr 21)), (en P "plus" 204 (vr 28)), (en P "distance" 213 (vr 35)), (en P "is_before" 223 (vr 42)), (en P "is_at_most" 232 (vr 49)), (en P "latest" 241 (vr 56)), (en P "StackError" 272 (vr 73)), (en P "SizeError" 288 (vr 86)), (en P "StateError" 304 (vr 98)), (en P "put16" 313 (vr 107)), (en P "FIN" 317 (.int 1 316)), (en P "SYN" 319 (.int 2 318)), (en P "RST" 321 (.int 4 320)), (en P "PSH" 323 (.int 8 322)), (en P "ACK" 325 (.int 16 324)), (en P "OPTION_MSS" 327 (.int 2 326)), (en P "MSS_SIZE" 329 (.int 4 328)), (en P "Segment" 401 (vr 146)), (en P "check_number" 409 (vr 157)), (en P "mss_option" 416 (vr 164)), (en P "CLOSED" 420 (vs "closed" 419)), (en P "LISTEN" 422 (vs "listen" 421)), (en P "SYN_SENT" 424 (vs "syn sent" 423)), (en P "SYN_RECEIVED" 426 (vs "syn received" 425)), (en P "ESTABLISHED" 428 (vs "established" 427)), (en P "FIN_WAIT_1" 430 (vs "fin wait 1" 429)), (en P "FIN_WAIT_2" 432 (vs "fin wait 2" 431)), (en P "CLOSE_WAIT" 434 (vs "close wait" 433)), (en P "CLOSING" 436 (vs "closing" 435)), (en P "LAST_ACK" 438 (vs "last ack" 437)), (en P "TIME_WAIT" 440 (vs "time wait" 439)), (en P "opening_steps" 446 (vr 171)), (en P "closing_steps" 452 (vr 178)), (en P "follow" 461 (vr 185)), (en P "is_synchronized" 468 (vr 192)), (en P "is_sending" 475 (vr 199)), (en P "AckPolicy" 548 (vr 252)), (en P "DUPLICATES" 552 (.int 3 551)), (en P "Congestion" 670 (vr 343)), (en P "MOST_SHIFT_retransmit" 674 (.int 7 673)), (en P "RetransmitClock" 773 (vr 420)), (en P "RttEstimate" 849 (vr 476)), (en P "SendQueue" 921 (vr 532)), (en P "PeerWindow" 984 (vr 574)), (en P "Sender" 1225 (vr 765)), (en P "Wheel" 1319 (vr 832)), (en P "RESEND" 1323 (.int 1 1322)), (en P "PERSIST" 1325 (.int 2 1324)), (en P "DELAYED" 1327 (.int 3 1326)), (en P "WAIT" 1329 (.int 4 1328)), (en P "MOST_WINDOW" 1331 (.int 65535 1330)), (en P "Limits" 1378 (vr 853)), (en P "clock_of" 1386 (vr 864)), (en P "Tcb" 1452 (vr 896)), (en P "MOST_SHIFT_tcp_user" 1456 (.int 7 1455)), (en P "change_state" 1465 (vr 907)), (en P "closed" 1474 (vr 914)), (en P "enter_time_wait" 1483 (vr 921)), (en P "ack_segment" 1490 (vr 928)), (en P "syn_segment" 1497 (vr 935)), (en P "flags_of" 1506 (vr 942)), (en P "take_asked_fin" 1514 (vr 949)), (en P "data_segments" 1530 (vr 956)), (en P "output" 1539 (vr 963)), (en P "set_resend" 1547 (vr 970)), (en P "keep_timers" 1555 (vr 977)), (en P "probe_wait" 1563 (vr 984)), (en P "segment_again" 1574 (vr 991)), (en P "turned_down" 1586 (vr 998)), (en P "is_old_acknowledgement" 1594 (vr 1005)), (en P "is_too_far" 1604 (vr 1012)), (en P "take_ack" 1616 (vr 1019)), (en P "take_acknowledgement" 1630 (vr 1026)), (en P "take_duplicate" 1641 (vr 1033)), (en P "end_of_sending" 1649 (vr 1040)), (en P "Assembly" 1802 (vr 1132)), (en P "Receiver" 1971 (vr 1266)), (en P "_law_pool" 1982 (vr 1277)), (en P "_law_take" 1991 (vr 1284)), (en P "_law_one" 1999 (vr 1291)), (en P "_law_end" 2010 (vr 1298)), (en P "_law_has_fin" 2017 (vr 1305)), (en P "_law_later" 2027 (vr 1312)), (en P "_law_window" 2038 (vr 1319)), (en P "_law_row_right" 2044 (vr 1324)), (en P "_law_state_right" 2056 (vr 1331)), (en P "_law_thrice_right" 2062 (vr 1336)), (en P "law" 2077 (vr 1343))]
noncomputable def e12 : List Value := [(vi 1), (vi 0), (vr 20), (vi 5), (vi 0), (vr 27), (vi 7), (vi 0), (vr 34), (vi 9), (vi 0), (vr 41), (vi 12), (vi 0), (vr 48), (vi 14), (vi 0), (vr 55), (vi 17), (vi 0), (vr 62), (vi 21), (vi 0), (vr 82), (vi 23), (vi 0), (vr 94), (vi 26), (vi 0), (vr 106), (vi 36), (vi 0), (vr 113), (vi 63), (vi 0), (vr 156), (vi 66), (vi 0), (vr 163), (vi 81), (vi 0), (vr 170), (vi 83), (vi 0), (vr 177), (vi 85), (vi 0), (vr 184), (vi 94), (vi 0), (vr 191), (vi 96), (vi 0), (vr 198), (vi 99), (vi 0), (vr 205), (vi 124), (vi 0), (vr 262), (vi 198), (vi 0), (vr 353), (vi 242), (vi 0), (vr 430), (vi 280), (vi 0), (vr 486), (vi 309), (vi 0), (vr 542), (vi 337), (vi 0), (vr 584), (vi 491), (vi 0), (vr 775), (vi 550), (vi 0), (vr 842), (vi 563), (vi 0), (vr 863), (vi 566), (vi 0), (vr 870), (vi 601), (vi 0), (vr 906), (vi 606), (vi 0), (vr 913), (vi 612), (vi 0), (vr 920), (vi 617), (vi 0), (vr 927), (vi 619), (vi 0), (vr 934), (vi 621), (vi 0), (vr 941), (vi 628), (vi 0), (vr 948), (vi 633), (vi 0), (vr 955), (vi 643), (vi 0), (vr 962), (vi 654), (vi 0), (vr 969), (vi 659), (vi 0), (vr 976), (vi 671), (vi 0), (vr 983), (vi 674), (vi 0), (vr 990), (vi 681), (vi 0), (vr 997), (vi 693), (vi 0), (vr 1004), (vi 697), (vi 0), (vr 1011), (vi 701), (vi 0), (vr 1018), (vi 708), (vi 0), (vr 1025), (vi 727), (vi 0), (vr 1032), (vi 736), (vi 0), (vr 1039), (vi 744), (vi 0), (vr 1046), (vi 837), (vi 0), (vr 1142), (vi 910), (vi 0), (vr 1276), (vi 914), (vi 0), (vr 1283), (vi 921), (vi 0), (vr 1290), (vi 923), (vi 0), (vr 1297), (vi 938), (vi 0), (vr 1304), (vi 940), (vi 0), (vr 1311), (vi 945), (vi 0), (vr 1318), (vi 949), (vi 0), (vr 1323), (vi 970), (vi 0), (vr 1330), (vi 976), (vi 0), (vr 1335), (vi 986), (vi 0), (vr 1342)]
noncomputable def g3 (P : Params) (a : DictEntry) (m n : Nat) : Obj := ob (vt "dict") (dc (a :: (e3 P).take m) n)
noncomputable def g12 (m : Nat) : Obj := ob vn (fl (e12.take m))
noncomputable def o0 (P : Params) : Obj := boot_o_0 P
noncomputable def o1 (P : Params) : Obj := boot_o_1 P
noncomputable def o2 (P : Params) : Obj := ob vn (dc [(en P "type.__subclasses__.Exception.0" 269 (vi 73)), (en P "type.__subclasses__.Exception.n" 270 (vi 1))] 2)
noncomputable def o3 (P : Params) : Obj := g3 P ((en P "__name__" 165 (vs "law_xw0354_01" 1972))) 96 97
noncomputable def o4 (P : Params) : Obj := boot_o_4 P
noncomputable def o5 (P : Params) : Obj := boot_o_5 P
noncomputable def o6 (P : Params) : Obj := boot_o_6 P
noncomputable def o7 (P : Params) : Obj := boot_o_7 P
noncomputable def o8 (P : Params) : Obj := boot_o_8 P
noncomputable def o9 (P : Params) : Obj := boot_o_9 P
noncomputable def o10 (P : Params) : Obj := boot_o_10 P
noncomputable def o11 (P : Params) : Obj := tu []
noncomputable def o12 (P : Params) : Obj := g12 186
noncomputable def o13 (P : Params) : Obj := cO [(vs "<module>" 182), (vs "<module>" 183), (vs "/claim/cut.py" 184), (vi 1), (vi 0), (vi 0), (vi 0), (vi 0), (vr 11), (.bool false), (vi 181), (vr 12), vn, vn, vn, vn, (vi 185), (vi 1), (vs "/claim/cut.py" 186)]
noncomputable def o14 (P : Params) : Obj := (⟨(vt "frame"), none, .plain, #[some (vr 13), some (vr 3), some (vr 3), none, some (vs "__main__" 164), none, some (vr 0)]⟩ : Obj)
noncomputable def o15 (P : Params) : Obj := tu []
noncomputable def o16 (P : Params) : Obj := ob vn (fl [])
noncomputable def o17 (P : Params) : Obj := tu [(vs "k" 190)]
noncomputable def o18 (P : Params) : Obj := tu []
noncomputable def o19 (P : Params) : Obj := ob vn (fO (tS 0) "_wall" 0 vn vn vn vn vn)
noncomputable def o20 (P : Params) : Obj := cO [(vs "_wall" 187), (vs "_wall" 188), (vs "/claim/cut.py" 189), (vi 1), (vi 1), (vi 0), (vi 0), (vi 3), (vr 15), (.bool true), (vi 181), (vr 16), vn, (vr 17), (vr 18), (vr 19), (vi 191), (vi 1), (vs "/claim/cut.py" 192)]
noncomputable def o21 (P : Params) : Obj := ob (vt "function") (fO (tS 0) "_wall" 3 vn vn vn (vs "__main__" 164) (vr 20))
noncomputable def o22 (P : Params) : Obj := tu []
noncomputable def o23 (P : Params) : Obj := ob vn (fl [])
noncomputable def o24 (P : Params) : Obj := tu [(vs "a" 199), (vs "n" 200), (vs "ring" 201)]
noncomputable def o25 (P : Params) : Obj := tu []
noncomputable def o26 (P : Params) : Obj := ob vn (fO (tS 2) "plus" 0 vn vn vn vn vn)
noncomputable def o27 (P : Params) : Obj := cO [(vs "plus" 196), (vs "plus" 197), (vs "/claim/cut.py" 198), (vi 5), (vi 3), (vi 0), (vi 0), (vi 3), (vr 22), (.bool true), (vi 181), (vr 23), vn, (vr 24), (vr 25), (vr 26), (vi 202), (vi 5), (vs "/claim/cut.py" 203)]
noncomputable def o28 (P : Params) : Obj := ob (vt "function") (fO (tS 2) "plus" 3 vn vn vn (vs "thinstack.sequence" 194) (vr 27))
noncomputable def o29 (P : Params) : Obj := tu []
noncomputable def o30 (P : Params) : Obj := ob vn (fl [])
noncomputable def o31 (P : Params) : Obj := tu [(vs "a" 208), (vs "b" 209), (vs "ring" 210)]
noncomputable def o32 (P : Params) : Obj := tu []
noncomputable def o33 (P : Params) : Obj := ob vn (fO (tS 3) "distance" 0 vn vn vn vn vn)
noncomputable def o34 (P : Params) : Obj := cO [(vs "distance" 205), (vs "distance" 206), (vs "/claim/cut.py" 207), (vi 7), (vi 3), (vi 0), (vi 0), (vi 3), (vr 29), (.bool true), (vi 181), (vr 30), vn, (vr 31), (vr 32), (vr 33), (vi 211), (vi 7), (vs "/claim/cut.py" 212)]
noncomputable def o35 (P : Params) : Obj := ob (vt "function") (fO (tS 3) "distance" 3 vn vn vn (vs "thinstack.sequence" 194) (vr 34))
noncomputable def o36 (P : Params) : Obj := tu []
noncomputable def o37 (P : Params) : Obj := ob vn (fl [])
noncomputable def o38 (P : Params) : Obj := tu [(vs "a" 217), (vs "b" 218), (vs "ring" 219), (vs "gap" 220)]
noncomputable def o39 (P : Params) : Obj := tu []
noncomputable def o40 (P : Params) : Obj := ob vn (fO (tS 4) "is_before" 0 vn vn vn vn vn)
noncomputable def o41 (P : Params) : Obj := cO [(vs "is_before" 214), (vs "is_before" 215), (vs "/claim/cut.py" 216), (vi 9), (vi 3), (vi 0), (vi 0), (vi 3), (vr 36), (.bool true), (vi 181), (vr 37), vn, (vr 38), (vr 39), (vr 40), (vi 221), (vi 9), (vs "/claim/cut.py" 222)]
noncomputable def o42 (P : Params) : Obj := ob (vt "function") (fO (tS 4) "is_before" 3 vn vn vn (vs "thinstack.sequence" 194) (vr 41))
noncomputable def o43 (P : Params) : Obj := tu []
noncomputable def o44 (P : Params) : Obj := ob vn (fl [])
noncomputable def o45 (P : Params) : Obj := tu [(vs "a" 227), (vs "b" 228), (vs "ring" 229)]
noncomputable def o46 (P : Params) : Obj := tu []
noncomputable def o47 (P : Params) : Obj := ob vn (fO (tS 5) "is_at_most" 0 vn vn vn vn vn)
noncomputable def o48 (P : Params) : Obj := cO [(vs "is_at_most" 224), (vs "is_at_most" 225), (vs "/claim/cut.py" 226), (vi 12), (vi 3), (vi 0), (vi 0), (vi 3), (vr 43), (.bool true), (vi 181), (vr 44), vn, (vr 45), (vr 46), (vr 47), (vi 230), (vi 12), (vs "/claim/cut.py" 231)]
noncomputable def o49 (P : Params) : Obj := ob (vt "function") (fO (tS 5) "is_at_most" 3 vn vn vn (vs "thinstack.sequence" 194) (vr 48))
noncomputable def o50 (P : Params) : Obj := tu []
noncomputable def o51 (P : Params) : Obj := ob vn (fl [])
noncomputable def o52 (P : Params) : Obj := tu [(vs "a" 236), (vs "b" 237), (vs "ring" 238)]
noncomputable def o53 (P : Params) : Obj := tu []
noncomputable def o54 (P : Params) : Obj := ob vn (fO (tS 6) "latest" 0 vn vn vn vn vn)
noncomputable def o55 (P : Params) : Obj := cO [(vs "latest" 233), (vs "latest" 234), (vs "/claim/cut.py" 235), (vi 14), (vi 3), (vi 0), (vi 0), (vi 3), (vr 50), (.bool true), (vi 181), (vr 51), vn, (vr 52), (vr 53), (vr 54), (vi 239), (vi 14), (vs "/claim/cut.py" 240)]
noncomputable def o56 (P : Params) : Obj := ob (vt "function") (fO (tS 6) "latest" 3 vn vn vn (vs "thinstack.sequence" 194) (vr 55))
noncomputable def o57 (P : Params) : Obj := tu [(vt "Exception")]
noncomputable def o58 (P : Params) : Obj := ob (vt "builtin_function_or_method") (fl [(vb "type.__prepare__"), (vt "type")])
noncomputable def o59 (P : Params) : Obj := ob (vt "dict") (dc [(en P "__module__" 251 (vs "thinstack.errors" 242)), (en P "__qualname__" 253 (vs "StackError" 252)), (en P "__firstlineno__" 255 (.int 17 254)), (en P "__init__" 263 (vr 70)), (en P "__static_attributes__" 265 (vr 71))] 5)
noncomputable def o60 (P : Params) : Obj := tu []
noncomputable def o61 (P : Params) : Obj := ob vn (fl [(vi 19), (vi 4), (vr 69)])
noncomputable def o62 (P : Params) : Obj := cO [(vs "StackError" 246), (vs "StackError" 247), (vs "/claim/cut.py" 248), (vi 17), (vi 0), (vi 0), (vi 0), (vi 0), (vr 60), (.bool false), (vi 181), (vr 61), vn, vn, vn, vn, (vi 249), (vi 17), (vs "/claim/cut.py" 250)]
noncomputable def o63 (P : Params) : Obj := (⟨(vt "frame"), none, .plain, #[some (vr 62), some (vr 3), some (vr 59), none, some (vs "thinstack.errors" 242), none, some (vr 0)]⟩ : Obj)
noncomputable def o64 (P : Params) : Obj := tu []
noncomputable def o65 (P : Params) : Obj := ob vn (fl [])
noncomputable def o66 (P : Params) : Obj := tu [(vs "self" 259), (vs "message" 260)]
noncomputable def o67 (P : Params) : Obj := tu []
noncomputable def o68 (P : Params) : Obj := ob vn (fO (cS 8 0) "StackError.__init__" 0 vn vn vn vn vn)
noncomputable def o69 (P : Params) : Obj := cO [(vs "__init__" 256), (vs "StackError.__init__" 257), (vs "/claim/cut.py" 258), (vi 19), (vi 2), (vi 0), (vi 0), (vi 3), (vr 64), (.bool true), (vi 181), (vr 65), vn, (vr 66), (vr 67), (vr 68), (vi 261), (vi 19), (vs "/claim/cut.py" 262)]
noncomputable def o70 (P : Params) : Obj := ob (vt "function") (fO (cS 8 0) "StackError.__init__" 3 vn vn vn (vs "thinstack.errors" 242) (vr 69))
noncomputable def o71 (P : Params) : Obj := tu [(vs "message" 264)]
noncomputable def o72 (P : Params) : Obj := ob (vt "dict") (dc [(en P "__module__" 251 (vs "thinstack.errors" 242)), (en P "__firstlineno__" 255 (.int 17 254)), (en P "__init__" 263 (vr 70)), (en P "__static_attributes__" 265 (vr 71)), (en P "__weakref__" 267 (vr 74)), (en P "__doc__" 268 vn)] 3)
noncomputable def o73 (P : Params) : Obj := (⟨(vt "type"), none, (.cls { name := ss "StackError", bases := [(vt "Exception")], mro := [(vr 73), (vt "Exception"), (vt "BaseException"), (vt "object")], ns := 72, qualname := ss "StackError", hasDict := true, slotNames := [], subclasses := [(vr 86), (vr 98)], abstract := false, collection := none, hasDel := false }), #[some (vr 57), none, some (vs "StackError" 244), some (vs "StackError" 252), some (vb "Exception.__new__"), some (.bool true)]⟩ : Obj)
noncomputable def o74 (P : Params) : Obj := ob (vt "getset_descriptor") (fl [(vs "__weakref__" 266), (vr 73), (vb "ExceptionGroup.__weakref__"), vn])
noncomputable def o75 (P : Params) : Obj := ob (vt "super") (fl [(vr 73), (vr 73), (vr 73)])
noncomputable def o76 (P : Params) : Obj := ob (vt "builtin_function_or_method") (fl [(vb "object.__init_subclass__"), (vr 73)])
noncomputable def o77 (P : Params) : Obj := tu [(vr 73)]
noncomputable def o78 (P : Params) : Obj := ob (vt "builtin_function_or_method") (fl [(vb "type.__prepare__"), (vt "type")])
noncomputable def o79 (P : Params) : Obj := ob (vt "dict") (dc [(en P "__module__" 280 (vs "thinstack.errors" 242)), (en P "__qualname__" 282 (vs "SizeError" 281)), (en P "__firstlineno__" 284 (.int 21 283)), (en P "__static_attributes__" 285 (vr 84))] 4)
noncomputable def o80 (P : Params) : Obj := tu []
noncomputable def o81 (P : Params) : Obj := ob vn (fl [])
noncomputable def o82 (P : Params) : Obj := cO [(vs "SizeError" 275), (vs "SizeError" 276), (vs "/claim/cut.py" 277), (vi 21), (vi 0), (vi 0), (vi 0), (vi 0), (vr 80), (.bool false), (vi 181), (vr 81), vn, vn, vn, vn, (vi 278), (vi 21), (vs "/claim/cut.py" 279)]
noncomputable def o83 (P : Params) : Obj := (⟨(vt "frame"), none, .plain, #[some (vr 82), some (vr 3), some (vr 79), none, some (vs "thinstack.errors" 242), none, some (vr 0)]⟩ : Obj)
noncomputable def o84 (P : Params) : Obj := tu []
noncomputable def o85 (P : Params) : Obj := ob (vt "dict") (dc [(en P "__module__" 280 (vs "thinstack.errors" 242)), (en P "__firstlineno__" 284 (.int 21 283)), (en P "__static_attributes__" 285 (vr 84)), (en P "__doc__" 286 vn)] 2)
noncomputable def o86 (P : Params) : Obj := (⟨(vt "type"), none, (.cls { name := ss "SizeError", bases := [(vr 73)], mro := [(vr 86), (vr 73), (vt "Exception"), (vt "BaseException"), (vt "object")], ns := 85, qualname := ss "SizeError", hasDict := true, slotNames := [], subclasses := [], abstract := false, collection := none, hasDel := false }), #[some (vr 77), none, some (vs "SizeError" 273), some (vs "SizeError" 281), some (vb "Exception.__new__"), some (.bool true)]⟩ : Obj)
noncomputable def o87 (P : Params) : Obj := ob (vt "super") (fl [(vr 86), (vr 86), (vr 86)])
noncomputable def o88 (P : Params) : Obj := ob (vt "builtin_function_or_method") (fl [(vb "object.__init_subclass__"), (vr 86)])
noncomputable def o89 (P : Params) : Obj := tu [(vr 73)]
noncomputable def o90 (P : Params) : Obj := ob (vt "builtin_function_or_method") (fl [(vb "type.__prepare__"), (vt "type")])
noncomputable def o91 (P : Params) : Obj := ob (vt "dict") (dc [(en P "__module__" 296 (vs "thinstack.errors" 242)), (en P "__qualname__" 298 (vs "StateError" 297)), (en P "__firstlineno__" 300 (.int 23 299)), (en P "__static_attributes__" 301 (vr 96))] 4)
noncomputable def o92 (P : Params) : Obj := tu []
noncomputable def o93 (P : Params) : Obj := ob vn (fl [])
noncomputable def o94 (P : Params) : Obj := cO [(vs "StateError" 291), (vs "StateError" 292), (vs "/claim/cut.py" 293), (vi 23), (vi 0), (vi 0), (vi 0), (vi 0), (vr 92), (.bool false), (vi 181), (vr 93), vn, vn, vn, vn, (vi 294), (vi 23), (vs "/claim/cut.py" 295)]
noncomputable def o95 (P : Params) : Obj := (⟨(vt "frame"), none, .plain, #[some (vr 94), some (vr 3), some (vr 91), none, some (vs "thinstack.errors" 242), none, some (vr 0)]⟩ : Obj)
noncomputable def o96 (P : Params) : Obj := tu []
noncomputable def o97 (P : Params) : Obj := ob (vt "dict") (dc [(en P "__module__" 296 (vs "thinstack.errors" 242)), (en P "__firstlineno__" 300 (.int 23 299)), (en P "__static_attributes__" 301 (vr 96)), (en P "__doc__" 302 vn)] 2)
noncomputable def o98 (P : Params) : Obj := (⟨(vt "type"), none, (.cls { name := ss "StateError", bases := [(vr 73)], mro := [(vr 98), (vr 73), (vt "Exception"), (vt "BaseException"), (vt "object")], ns := 97, qualname := ss "StateError", hasDict := true, slotNames := [], subclasses := [], abstract := false, collection := none, hasDel := false }), #[some (vr 89), none, some (vs "StateError" 289), some (vs "StateError" 297), some (vb "Exception.__new__"), some (.bool true)]⟩ : Obj)
noncomputable def o99 (P : Params) : Obj := ob (vt "super") (fl [(vr 98), (vr 98), (vr 98)])
noncomputable def o100 (P : Params) : Obj := ob (vt "builtin_function_or_method") (fl [(vb "object.__init_subclass__"), (vr 98)])
noncomputable def o101 (P : Params) : Obj := tu []
noncomputable def o102 (P : Params) : Obj := ob vn (fl [])
noncomputable def o103 (P : Params) : Obj := tu [(vs "n" 310)]
noncomputable def o104 (P : Params) : Obj := tu []
noncomputable def o105 (P : Params) : Obj := ob vn (fO (tS 12) "put16" 0 vn vn vn vn vn)
noncomputable def o106 (P : Params) : Obj := cO [(vs "put16" 307), (vs "put16" 308), (vs "/claim/cut.py" 309), (vi 26), (vi 1), (vi 0), (vi 0), (vi 3), (vr 101), (.bool true), (vi 181), (vr 102), vn, (vr 103), (vr 104), (vr 105), (vi 311), (vi 26), (vs "/claim/cut.py" 312)]
noncomputable def o107 (P : Params) : Obj := ob (vt "function") (fO (tS 12) "put16" 3 vn vn vn (vs "thinstack.octets" 305) (vr 106))
noncomputable def o108 (P : Params) : Obj := tu []
noncomputable def o109 (P : Params) : Obj := ob (vt "builtin_function_or_method") (fl [(vb "type.__prepare__"), (vt "type")])
noncomputable def o110 (P : Params) : Obj := ob (vt "dict") (dc [(en P "__module__" 337 (vs "thinstack.tcp_segment" 314)), (en P "__qualname__" 339 (vs "Segment" 338)), (en P "__firstlineno__" 341 (.int 36 340)), (en P "__init__" 360 (vr 122)), (en P "has" 368 (vr 129)), (en P "length" 376 (vr 136)), (en P "row" 384 (vr 143)), (en P "__static_attributes__" 394 (vr 144))] 8)
noncomputable def o111 (P : Params) : Obj := tu []
noncomputable def o112 (P : Params) : Obj := ob vn (fl [(vi 38), (vi 4), (vr 121), (vi 49), (vi 4), (vr 128), (vi 52), (vi 4), (vr 135), (vi 60), (vi 4), (vr 142)])
noncomputable def o113 (P : Params) : Obj := cO [(vs "Segment" 332), (vs "Segment" 333), (vs "/claim/cut.py" 334), (vi 36), (vi 0), (vi 0), (vi 0), (vi 0), (vr 111), (.bool false), (vi 181), (vr 112), vn, vn, vn, vn, (vi 335), (vi 36), (vs "/claim/cut.py" 336)]
noncomputable def o114 (P : Params) : Obj := (⟨(vt "frame"), none, .plain, #[some (vr 113), some (vr 3), some (vr 110), none, some (vs "thinstack.tcp_segment" 314), none, some (vr 0)]⟩ : Obj)
noncomputable def o115 (P : Params) : Obj := tu [(.int 0 342), (.bytes #[] 343), (.bytes #[] 344)]
noncomputable def o116 (P : Params) : Obj := tu []
noncomputable def o117 (P : Params) : Obj := ob vn (fl [])
noncomputable def o118 (P : Params) : Obj := tu [(vs "self" 348), (vs "source_port" 349), (vs "target_port" 350), (vs "seq" 351), (vs "ack" 352), (vs "flags" 353), (vs "window" 354), (vs "urgent" 355), (vs "options" 356), (vs "payload" 357)]
noncomputable def o119 (P : Params) : Obj := tu []
noncomputable def o120 (P : Params) : Obj := ob vn (fO (cS 21 0) "Segment.__init__" 0 vn vn vn vn vn)
noncomputable def o121 (P : Params) : Obj := cO [(vs "__init__" 345), (vs "Segment.__init__" 346), (vs "/claim/cut.py" 347), (vi 38), (vi 10), (vi 0), (vi 0), (vi 3), (vr 116), (.bool true), (vi 181), (vr 117), vn, (vr 118), (vr 119), (vr 120), (vi 358), (vi 38), (vs "/claim/cut.py" 359)]
noncomputable def o122 (P : Params) : Obj := ob (vt "function") (fO (cS 21 0) "Segment.__init__" 3 (vr 115) vn vn (vs "thinstack.tcp_segment" 314) (vr 121))
noncomputable def o123 (P : Params) : Obj := tu []
noncomputable def o124 (P : Params) : Obj := ob vn (fl [])
noncomputable def o125 (P : Params) : Obj := tu [(vs "self" 364), (vs "flag" 365)]
noncomputable def o126 (P : Params) : Obj := tu []
noncomputable def o127 (P : Params) : Obj := ob vn (fO (cS 21 1) "Segment.has" 0 vn vn vn vn vn)
noncomputable def o128 (P : Params) : Obj := cO [(vs "has" 361), (vs "Segment.has" 362), (vs "/claim/cut.py" 363), (vi 49), (vi 2), (vi 0), (vi 0), (vi 3), (vr 123), (.bool true), (vi 181), (vr 124), vn, (vr 125), (vr 126), (vr 127), (vi 366), (vi 49), (vs "/claim/cut.py" 367)]
noncomputable def o129 (P : Params) : Obj := ob (vt "function") (fO (cS 21 1) "Segment.has" 3 vn vn vn (vs "thinstack.tcp_segment" 314) (vr 128))
noncomputable def o130 (P : Params) : Obj := tu []
noncomputable def o131 (P : Params) : Obj := ob vn (fl [])
noncomputable def o132 (P : Params) : Obj := tu [(vs "self" 372), (vs "many" 373)]
noncomputable def o133 (P : Params) : Obj := tu []
noncomputable def o134 (P : Params) : Obj := ob vn (fO (cS 21 2) "Segment.length" 0 vn vn vn vn vn)
noncomputable def o135 (P : Params) : Obj := cO [(vs "length" 369), (vs "Segment.length" 370), (vs "/claim/cut.py" 371), (vi 52), (vi 1), (vi 0), (vi 0), (vi 3), (vr 130), (.bool true), (vi 181), (vr 131), vn, (vr 132), (vr 133), (vr 134), (vi 374), (vi 52), (vs "/claim/cut.py" 375)]
noncomputable def o136 (P : Params) : Obj := ob (vt "function") (fO (cS 21 2) "Segment.length" 3 vn vn vn (vs "thinstack.tcp_segment" 314) (vr 135))
noncomputable def o137 (P : Params) : Obj := tu []
noncomputable def o138 (P : Params) : Obj := ob vn (fl [])
noncomputable def o139 (P : Params) : Obj := tu [(vs "self" 380), (vs "numbers" 381)]
noncomputable def o140 (P : Params) : Obj := tu []
noncomputable def o141 (P : Params) : Obj := ob vn (fO (cS 21 3) "Segment.row" 0 vn vn vn vn vn)
noncomputable def o142 (P : Params) : Obj := cO [(vs "row" 377), (vs "Segment.row" 378), (vs "/claim/cut.py" 379), (vi 60), (vi 1), (vi 0), (vi 0), (vi 3), (vr 137), (.bool true), (vi 181), (vr 138), vn, (vr 139), (vr 140), (vr 141), (vi 382), (vi 60), (vs "/claim/cut.py" 383)]
noncomputable def o143 (P : Params) : Obj := ob (vt "function") (fO (cS 21 3) "Segment.row" 3 vn vn vn (vs "thinstack.tcp_segment" 314) (vr 142))
noncomputable def o144 (P : Params) : Obj := tu [(vs "ack" 385), (vs "flags" 386), (vs "options" 387), (vs "payload" 388), (vs "seq" 389), (vs "source_port" 390), (vs "target_port" 391), (vs "urgent" 392), (vs "window" 393)]
noncomputable def o145 (P : Params) : Obj := ob (vt "dict") (dc [(en P "__module__" 337 (vs "thinstack.tcp_segment" 314)), (en P "__firstlineno__" 341 (.int 36 340)), (en P "__init__" 360 (vr 122)), (en P "has" 368 (vr 129)), (en P "length" 376 (vr 136)), (en P "row" 384 (vr 143)), (en P "__static_attributes__" 394 (vr 144)), (en P "__dict__" 396 (vr 147)), (en P "__weakref__" 398 (vr 148)), (en P "__doc__" 399 vn)] 4)
noncomputable def o146 (P : Params) : Obj := (⟨(vt "type"), none, (.cls { name := ss "Segment", bases := [(vt "object")], mro := [(vr 146), (vt "object")], ns := 145, qualname := ss "Segment", hasDict := true, slotNames := [], subclasses := [], abstract := false, collection := none, hasDel := false }), #[none, none, some (vs "Segment" 330), some (vs "Segment" 338), some (vb "object.__new__"), some (.bool true)]⟩ : Obj)
noncomputable def o147 (P : Params) : Obj := ob (vt "getset_descriptor") (fl [(vs "__dict__" 395), (vr 146), (vb "function.__dict__"), (vb "function.__dict__#set")])
noncomputable def o148 (P : Params) : Obj := ob (vt "getset_descriptor") (fl [(vs "__weakref__" 397), (vr 146), (vb "ExceptionGroup.__weakref__"), vn])
noncomputable def o149 (P : Params) : Obj := ob (vt "super") (fl [(vr 146), (vr 146), (vr 146)])
noncomputable def o150 (P : Params) : Obj := ob (vt "builtin_function_or_method") (fl [(vb "object.__init_subclass__"), (vr 146)])
noncomputable def o151 (P : Params) : Obj := tu []
noncomputable def o152 (P : Params) : Obj := ob vn (fl [])
noncomputable def o153 (P : Params) : Obj := tu [(vs "number" 405), (vs "bits" 406)]
noncomputable def o154 (P : Params) : Obj := tu []
noncomputable def o155 (P : Params) : Obj := ob vn (fO (tS 22) "check_number" 0 vn vn vn vn vn)
noncomputable def o156 (P : Params) : Obj := cO [(vs "check_number" 402), (vs "check_number" 403), (vs "/claim/cut.py" 404), (vi 63), (vi 2), (vi 0), (vi 0), (vi 3), (vr 151), (.bool true), (vi 181), (vr 152), vn, (vr 153), (vr 154), (vr 155), (vi 407), (vi 63), (vs "/claim/cut.py" 408)]
noncomputable def o157 (P : Params) : Obj := ob (vt "function") (fO (tS 22) "check_number" 3 vn vn vn (vs "thinstack.tcp_segment" 314) (vr 156))
noncomputable def o158 (P : Params) : Obj := tu []
noncomputable def o159 (P : Params) : Obj := ob vn (fl [])
noncomputable def o160 (P : Params) : Obj := tu [(vs "n" 413)]
noncomputable def o161 (P : Params) : Obj := tu []
noncomputable def o162 (P : Params) : Obj := ob vn (fO (tS 23) "mss_option" 0 vn vn vn vn vn)
noncomputable def o163 (P : Params) : Obj := cO [(vs "mss_option" 410), (vs "mss_option" 411), (vs "/claim/cut.py" 412), (vi 66), (vi 1), (vi 0), (vi 0), (vi 3), (vr 158), (.bool true), (vi 181), (vr 159), vn, (vr 160), (vr 161), (vr 162), (vi 414), (vi 66), (vs "/claim/cut.py" 415)]
noncomputable def o164 (P : Params) : Obj := ob (vt "function") (fO (tS 23) "mss_option" 3 vn vn vn (vs "thinstack.tcp_segment" 314) (vr 163))
noncomputable def o165 (P : Params) : Obj := tu []
noncomputable def o166 (P : Params) : Obj := ob vn (fl [])
noncomputable def o167 (P : Params) : Obj := tu []
noncomputable def o168 (P : Params) : Obj := tu []
noncomputable def o169 (P : Params) : Obj := ob vn (fO (tS 36) "opening_steps" 0 vn vn vn vn vn)
noncomputable def o170 (P : Params) : Obj := cO [(vs "opening_steps" 441), (vs "opening_steps" 442), (vs "/claim/cut.py" 443), (vi 81), (vi 0), (vi 0), (vi 0), (vi 3), (vr 165), (.bool true), (vi 181), (vr 166), vn, (vr 167), (vr 168), (vr 169), (vi 444), (vi 81), (vs "/claim/cut.py" 445)]
noncomputable def o171 (P : Params) : Obj := ob (vt "function") (fO (tS 36) "opening_steps" 3 vn vn vn (vs "thinstack.tcp_states" 417) (vr 170))
noncomputable def o172 (P : Params) : Obj := tu []
noncomputable def o173 (P : Params) : Obj := ob vn (fl [])
noncomputable def o174 (P : Params) : Obj := tu []
noncomputable def o175 (P : Params) : Obj := tu []
noncomputable def o176 (P : Params) : Obj := ob vn (fO (tS 37) "closing_steps" 0 vn vn vn vn vn)
noncomputable def o177 (P : Params) : Obj := cO [(vs "closing_steps" 447), (vs "closing_steps" 448), (vs "/claim/cut.py" 449), (vi 83), (vi 0), (vi 0), (vi 0), (vi 3), (vr 172), (.bool true), (vi 181), (vr 173), vn, (vr 174), (vr 175), (vr 176), (vi 450), (vi 83), (vs "/claim/cut.py" 451)]
noncomputable def o178 (P : Params) : Obj := ob (vt "function") (fO (tS 37) "closing_steps" 3 vn vn vn (vs "thinstack.tcp_states" 417) (vr 177))
noncomputable def o179 (P : Params) : Obj := tu []
noncomputable def o180 (P : Params) : Obj := ob vn (fl [])
noncomputable def o181 (P : Params) : Obj := tu [(vs "state" 456), (vs "event" 457), (vs "found" 458)]
noncomputable def o182 (P : Params) : Obj := tu []
noncomputable def o183 (P : Params) : Obj := ob vn (fO (tS 38) "follow" 0 vn vn vn vn vn)
noncomputable def o184 (P : Params) : Obj := cO [(vs "follow" 453), (vs "follow" 454), (vs "/claim/cut.py" 455), (vi 85), (vi 2), (vi 0), (vi 0), (vi 3), (vr 179), (.bool true), (vi 181), (vr 180), vn, (vr 181), (vr 182), (vr 183), (vi 459), (vi 85), (vs "/claim/cut.py" 460)]
noncomputable def o185 (P : Params) : Obj := ob (vt "function") (fO (tS 38) "follow" 3 vn vn vn (vs "thinstack.tcp_states" 417) (vr 184))
noncomputable def o186 (P : Params) : Obj := tu []
noncomputable def o187 (P : Params) : Obj := ob vn (fl [])
noncomputable def o188 (P : Params) : Obj := tu [(vs "state" 465)]
noncomputable def o189 (P : Params) : Obj := tu []
noncomputable def o190 (P : Params) : Obj := ob vn (fO (tS 39) "is_synchronized" 0 vn vn vn vn vn)
noncomputable def o191 (P : Params) : Obj := cO [(vs "is_synchronized" 462), (vs "is_synchronized" 463), (vs "/claim/cut.py" 464), (vi 94), (vi 1), (vi 0), (vi 0), (vi 3), (vr 186), (.bool true), (vi 181), (vr 187), vn, (vr 188), (vr 189), (vr 190), (vi 466), (vi 94), (vs "/claim/cut.py" 467)]
noncomputable def o192 (P : Params) : Obj := ob (vt "function") (fO (tS 39) "is_synchronized" 3 vn vn vn (vs "thinstack.tcp_states" 417) (vr 191))
noncomputable def o193 (P : Params) : Obj := tu []
noncomputable def o194 (P : Params) : Obj := ob vn (fl [])
noncomputable def o195 (P : Params) : Obj := tu [(vs "state" 472)]
noncomputable def o196 (P : Params) : Obj := tu []
noncomputable def o197 (P : Params) : Obj := ob vn (fO (tS 40) "is_sending" 0 vn vn vn vn vn)
noncomputable def o198 (P : Params) : Obj := cO [(vs "is_sending" 469), (vs "is_sending" 470), (vs "/claim/cut.py" 471), (vi 96), (vi 1), (vi 0), (vi 0), (vi 3), (vr 193), (.bool true), (vi 181), (vr 194), vn, (vr 195), (vr 196), (vr 197), (vi 473), (vi 96), (vs "/claim/cut.py" 474)]
noncomputable def o199 (P : Params) : Obj := ob (vt "function") (fO (tS 40) "is_sending" 3 vn vn vn (vs "thinstack.tcp_states" 417) (vr 198))
noncomputable def o200 (P : Params) : Obj := tu []
noncomputable def o201 (P : Params) : Obj := ob (vt "builtin_function_or_method") (fl [(vb "type.__prepare__"), (vt "type")])
noncomputable def o202 (P : Params) : Obj := ob (vt "dict") (dc [(en P "__module__" 485 (vs "thinstack.acks" 476)), (en P "__qualname__" 487 (vs "AckPolicy" 486)), (en P "__firstlineno__" 489 (.int 99 488)), (en P "__init__" 497 (vr 213)), (en P "on_octets" 507 (vr 221)), (en P "at_once" 514 (vr 228)), (en P "is_due" 522 (vr 235)), (en P "on_sent" 529 (vr 242)), (en P "due_time" 536 (vr 249)), (en P "__static_attributes__" 541 (vr 250))] 10)
noncomputable def o203 (P : Params) : Obj := tu []
noncomputable def o204 (P : Params) : Obj := ob vn (fl [(vi 101), (vi 4), (vr 212), (vi 107), (vi 4), (vr 220), (vi 110), (vi 4), (vr 227), (vi 113), (vi 4), (vr 234), (vi 116), (vi 4), (vr 241), (vi 120), (vi 4), (vr 248)])
noncomputable def o205 (P : Params) : Obj := cO [(vs "AckPolicy" 480), (vs "AckPolicy" 481), (vs "/claim/cut.py" 482), (vi 99), (vi 0), (vi 0), (vi 0), (vi 0), (vr 203), (.bool false), (vi 181), (vr 204), vn, vn, vn, vn, (vi 483), (vi 99), (vs "/claim/cut.py" 484)]
noncomputable def o206 (P : Params) : Obj := (⟨(vt "frame"), none, .plain, #[some (vr 205), some (vr 3), some (vr 202), none, some (vs "thinstack.acks" 476), none, some (vr 0)]⟩ : Obj)
noncomputable def o207 (P : Params) : Obj := tu []
noncomputable def o208 (P : Params) : Obj := ob vn (fl [])
noncomputable def o209 (P : Params) : Obj := tu [(vs "self" 493), (vs "delay" 494)]
noncomputable def o210 (P : Params) : Obj := tu []
noncomputable def o211 (P : Params) : Obj := ob vn (fO (cS 42 0) "AckPolicy.__init__" 0 vn vn vn vn vn)
noncomputable def o212 (P : Params) : Obj := cO [(vs "__init__" 490), (vs "AckPolicy.__init__" 491), (vs "/claim/cut.py" 492), (vi 101), (vi 2), (vi 0), (vi 0), (vi 3), (vr 207), (.bool true), (vi 181), (vr 208), vn, (vr 209), (vr 210), (vr 211), (vi 495), (vi 101), (vs "/claim/cut.py" 496)]
noncomputable def o213 (P : Params) : Obj := ob (vt "function") (fO (cS 42 0) "AckPolicy.__init__" 3 vn vn vn (vs "thinstack.acks" 476) (vr 212))
noncomputable def o214 (P : Params) : Obj := tu [(.bool false)]
noncomputable def o215 (P : Params) : Obj := tu []
noncomputable def o216 (P : Params) : Obj := ob vn (fl [])
noncomputable def o217 (P : Params) : Obj := tu [(vs "self" 501), (vs "in_order" 502), (vs "now" 503), (vs "has_holes" 504)]
noncomputable def o218 (P : Params) : Obj := tu []
noncomputable def o219 (P : Params) : Obj := ob vn (fO (cS 42 1) "AckPolicy.on_octets" 0 vn vn vn vn vn)
noncomputable def o220 (P : Params) : Obj := cO [(vs "on_octets" 498), (vs "AckPolicy.on_octets" 499), (vs "/claim/cut.py" 500), (vi 107), (vi 4), (vi 0), (vi 0), (vi 3), (vr 215), (.bool true), (vi 181), (vr 216), vn, (vr 217), (vr 218), (vr 219), (vi 505), (vi 107), (vs "/claim/cut.py" 506)]
noncomputable def o221 (P : Params) : Obj := ob (vt "function") (fO (cS 42 1) "AckPolicy.on_octets" 3 (vr 214) vn vn (vs "thinstack.acks" 476) (vr 220))
noncomputable def o222 (P : Params) : Obj := tu []
noncomputable def o223 (P : Params) : Obj := ob vn (fl [])
noncomputable def o224 (P : Params) : Obj := tu [(vs "self" 511)]
noncomputable def o225 (P : Params) : Obj := tu []
noncomputable def o226 (P : Params) : Obj := ob vn (fO (cS 42 2) "AckPolicy.at_once" 0 vn vn vn vn vn)
noncomputable def o227 (P : Params) : Obj := cO [(vs "at_once" 508), (vs "AckPolicy.at_once" 509), (vs "/claim/cut.py" 510), (vi 110), (vi 1), (vi 0), (vi 0), (vi 3), (vr 222), (.bool true), (vi 181), (vr 223), vn, (vr 224), (vr 225), (vr 226), (vi 512), (vi 110), (vs "/claim/cut.py" 513)]
noncomputable def o228 (P : Params) : Obj := ob (vt "function") (fO (cS 42 2) "AckPolicy.at_once" 3 vn vn vn (vs "thinstack.acks" 476) (vr 227))
noncomputable def o229 (P : Params) : Obj := tu []
noncomputable def o230 (P : Params) : Obj := ob vn (fl [])
noncomputable def o231 (P : Params) : Obj := tu [(vs "self" 518), (vs "now" 519)]
noncomputable def o232 (P : Params) : Obj := tu []
noncomputable def o233 (P : Params) : Obj := ob vn (fO (cS 42 3) "AckPolicy.is_due" 0 vn vn vn vn vn)
noncomputable def o234 (P : Params) : Obj := cO [(vs "is_due" 515), (vs "AckPolicy.is_due" 516), (vs "/claim/cut.py" 517), (vi 113), (vi 2), (vi 0), (vi 0), (vi 3), (vr 229), (.bool true), (vi 181), (vr 230), vn, (vr 231), (vr 232), (vr 233), (vi 520), (vi 113), (vs "/claim/cut.py" 521)]
noncomputable def o235 (P : Params) : Obj := ob (vt "function") (fO (cS 42 3) "AckPolicy.is_due" 3 vn vn vn (vs "thinstack.acks" 476) (vr 234))
noncomputable def o236 (P : Params) : Obj := tu []
noncomputable def o237 (P : Params) : Obj := ob vn (fl [])
noncomputable def o238 (P : Params) : Obj := tu [(vs "self" 526)]
noncomputable def o239 (P : Params) : Obj := tu []
noncomputable def o240 (P : Params) : Obj := ob vn (fO (cS 42 4) "AckPolicy.on_sent" 0 vn vn vn vn vn)
noncomputable def o241 (P : Params) : Obj := cO [(vs "on_sent" 523), (vs "AckPolicy.on_sent" 524), (vs "/claim/cut.py" 525), (vi 116), (vi 1), (vi 0), (vi 0), (vi 3), (vr 236), (.bool true), (vi 181), (vr 237), vn, (vr 238), (vr 239), (vr 240), (vi 527), (vi 116), (vs "/claim/cut.py" 528)]
noncomputable def o242 (P : Params) : Obj := ob (vt "function") (fO (cS 42 4) "AckPolicy.on_sent" 3 vn vn vn (vs "thinstack.acks" 476) (vr 241))
noncomputable def o243 (P : Params) : Obj := tu []
noncomputable def o244 (P : Params) : Obj := ob vn (fl [])
noncomputable def o245 (P : Params) : Obj := tu [(vs "self" 533)]
noncomputable def o246 (P : Params) : Obj := tu []
noncomputable def o247 (P : Params) : Obj := ob vn (fO (cS 42 5) "AckPolicy.due_time" 0 vn vn vn vn vn)
noncomputable def o248 (P : Params) : Obj := cO [(vs "due_time" 530), (vs "AckPolicy.due_time" 531), (vs "/claim/cut.py" 532), (vi 120), (vi 1), (vi 0), (vi 0), (vi 3), (vr 243), (.bool true), (vi 181), (vr 244), vn, (vr 245), (vr 246), (vr 247), (vi 534), (vi 120), (vs "/claim/cut.py" 535)]
noncomputable def o249 (P : Params) : Obj := ob (vt "function") (fO (cS 42 5) "AckPolicy.due_time" 3 vn vn vn (vs "thinstack.acks" 476) (vr 248))
noncomputable def o250 (P : Params) : Obj := tu [(vs "delay" 537), (vs "due" 538), (vs "has_gap" 539), (vs "waiting" 540)]
noncomputable def o251 (P : Params) : Obj := ob (vt "dict") (dc [(en P "__module__" 485 (vs "thinstack.acks" 476)), (en P "__firstlineno__" 489 (.int 99 488)), (en P "__init__" 497 (vr 213)), (en P "on_octets" 507 (vr 221)), (en P "at_once" 514 (vr 228)), (en P "is_due" 522 (vr 235)), (en P "on_sent" 529 (vr 242)), (en P "due_time" 536 (vr 249)), (en P "__static_attributes__" 541 (vr 250)), (en P "__dict__" 543 (vr 253)), (en P "__weakref__" 545 (vr 254)), (en P "__doc__" 546 vn)] 4)
noncomputable def o252 (P : Params) : Obj := (⟨(vt "type"), none, (.cls { name := ss "AckPolicy", bases := [(vt "object")], mro := [(vr 252), (vt "object")], ns := 251, qualname := ss "AckPolicy", hasDict := true, slotNames := [], subclasses := [], abstract := false, collection := none, hasDel := false }), #[none, none, some (vs "AckPolicy" 478), some (vs "AckPolicy" 486), some (vb "object.__new__"), some (.bool true)]⟩ : Obj)
noncomputable def o253 (P : Params) : Obj := ob (vt "getset_descriptor") (fl [(vs "__dict__" 542), (vr 252), (vb "function.__dict__"), (vb "function.__dict__#set")])
noncomputable def o254 (P : Params) : Obj := ob (vt "getset_descriptor") (fl [(vs "__weakref__" 544), (vr 252), (vb "ExceptionGroup.__weakref__"), vn])
noncomputable def o255 (P : Params) : Obj := ob (vt "super") (fl [(vr 252), (vr 252), (vr 252)])
noncomputable def o256 (P : Params) : Obj := ob (vt "builtin_function_or_method") (fl [(vb "object.__init_subclass__"), (vr 252)])
noncomputable def o257 (P : Params) : Obj := tu []
noncomputable def o258 (P : Params) : Obj := ob (vt "builtin_function_or_method") (fl [(vb "type.__prepare__"), (vt "type")])
noncomputable def o259 (P : Params) : Obj := ob (vt "dict") (dc [(en P "__module__" 560 (vs "thinstack.congestion" 549)), (en P "__qualname__" 562 (vs "Congestion" 561)), (en P "__firstlineno__" 564 (.int 124 563)), (en P "__init__" 574 (vr 270)), (en P "window" 581 (vr 277)), (en P "told_mss" 589 (vr 284)), (en P "grow" 597 (vr 291)), (en P "halved" 606 (vr 298)), (en P "acked" 614 (vr 305)), (en P "slow_start" 623 (vr 312)), (en P "avoid" 631 (vr 319)), (en P "duplicate" 639 (vr 326)), (en P "recovered" 646 (vr 333)), (en P "timed_out" 654 (vr 340)), (en P "__static_attributes__" 663 (vr 341))] 15)
noncomputable def o260 (P : Params) : Obj := tu []
noncomputable def o261 (P : Params) : Obj := ob vn (fl [(vi 126), (vi 4), (vr 269), (vi 136), (vi 4), (vr 276), (vi 139), (vi 4), (vr 283), (vi 142), (vi 4), (vr 290), (vi 147), (vi 4), (vr 297), (vi 151), (vi 4), (vr 304), (vi 161), (vi 4), (vr 311), (vi 167), (vi 4), (vr 318), (vi 173), (vi 4), (vr 325), (vi 187), (vi 4), (vr 332), (vi 194), (vi 4), (vr 339)])
noncomputable def o262 (P : Params) : Obj := cO [(vs "Congestion" 555), (vs "Congestion" 556), (vs "/claim/cut.py" 557), (vi 124), (vi 0), (vi 0), (vi 0), (vi 0), (vr 260), (.bool false), (vi 181), (vr 261), vn, vn, vn, vn, (vi 558), (vi 124), (vs "/claim/cut.py" 559)]
noncomputable def o263 (P : Params) : Obj := (⟨(vt "frame"), none, .plain, #[some (vr 262), some (vr 3), some (vr 259), none, some (vs "thinstack.congestion" 549), none, some (vr 0)]⟩ : Obj)
noncomputable def o264 (P : Params) : Obj := tu []
noncomputable def o265 (P : Params) : Obj := ob vn (fl [])
noncomputable def o266 (P : Params) : Obj := tu [(vs "self" 568), (vs "mss" 569), (vs "first" 570), (vs "most" 571)]
noncomputable def o267 (P : Params) : Obj := tu []
noncomputable def o268 (P : Params) : Obj := ob vn (fO (cS 45 0) "Congestion.__init__" 0 vn vn vn vn vn)
noncomputable def o269 (P : Params) : Obj := cO [(vs "__init__" 565), (vs "Congestion.__init__" 566), (vs "/claim/cut.py" 567), (vi 126), (vi 4), (vi 0), (vi 0), (vi 3), (vr 264), (.bool true), (vi 181), (vr 265), vn, (vr 266), (vr 267), (vr 268), (vi 572), (vi 126), (vs "/claim/cut.py" 573)]
noncomputable def o270 (P : Params) : Obj := ob (vt "function") (fO (cS 45 0) "Congestion.__init__" 3 vn vn vn (vs "thinstack.congestion" 549) (vr 269))
noncomputable def o271 (P : Params) : Obj := tu []
noncomputable def o272 (P : Params) : Obj := ob vn (fl [])
noncomputable def o273 (P : Params) : Obj := tu [(vs "self" 578)]
noncomputable def o274 (P : Params) : Obj := tu []
noncomputable def o275 (P : Params) : Obj := ob vn (fO (cS 45 1) "Congestion.window" 0 vn vn vn vn vn)
noncomputable def o276 (P : Params) : Obj := cO [(vs "window" 575), (vs "Congestion.window" 576), (vs "/claim/cut.py" 577), (vi 136), (vi 1), (vi 0), (vi 0), (vi 3), (vr 271), (.bool true), (vi 181), (vr 272), vn, (vr 273), (vr 274), (vr 275), (vi 579), (vi 136), (vs "/claim/cut.py" 580)]
noncomputable def o277 (P : Params) : Obj := ob (vt "function") (fO (cS 45 1) "Congestion.window" 3 vn vn vn (vs "thinstack.congestion" 549) (vr 276))
noncomputable def o278 (P : Params) : Obj := tu []
noncomputable def o279 (P : Params) : Obj := ob vn (fl [])
noncomputable def o280 (P : Params) : Obj := tu [(vs "self" 585), (vs "mss" 586)]
noncomputable def o281 (P : Params) : Obj := tu []
noncomputable def o282 (P : Params) : Obj := ob vn (fO (cS 45 2) "Congestion.told_mss" 0 vn vn vn vn vn)
noncomputable def o283 (P : Params) : Obj := cO [(vs "told_mss" 582), (vs "Congestion.told_mss" 583), (vs "/claim/cut.py" 584), (vi 139), (vi 2), (vi 0), (vi 0), (vi 3), (vr 278), (.bool true), (vi 181), (vr 279), vn, (vr 280), (vr 281), (vr 282), (vi 587), (vi 139), (vs "/claim/cut.py" 588)]
noncomputable def o284 (P : Params) : Obj := ob (vt "function") (fO (cS 45 2) "Congestion.told_mss" 3 vn vn vn (vs "thinstack.congestion" 549) (vr 283))
noncomputable def o285 (P : Params) : Obj := tu []
noncomputable def o286 (P : Params) : Obj := ob vn (fl [])
noncomputable def o287 (P : Params) : Obj := tu [(vs "self" 593), (vs "octets" 594)]
noncomputable def o288 (P : Params) : Obj := tu []
noncomputable def o289 (P : Params) : Obj := ob vn (fO (cS 45 3) "Congestion.grow" 0 vn vn vn vn vn)
noncomputable def o290 (P : Params) : Obj := cO [(vs "grow" 590), (vs "Congestion.grow" 591), (vs "/claim/cut.py" 592), (vi 142), (vi 2), (vi 0), (vi 0), (vi 3), (vr 285), (.bool true), (vi 181), (vr 286), vn, (vr 287), (vr 288), (vr 289), (vi 595), (vi 142), (vs "/claim/cut.py" 596)]
noncomputable def o291 (P : Params) : Obj := ob (vt "function") (fO (cS 45 3) "Congestion.grow" 3 vn vn vn (vs "thinstack.congestion" 549) (vr 290))
noncomputable def o292 (P : Params) : Obj := tu []
noncomputable def o293 (P : Params) : Obj := ob vn (fl [])
noncomputable def o294 (P : Params) : Obj := tu [(vs "self" 601), (vs "flight" 602), (vs "half" 603)]
noncomputable def o295 (P : Params) : Obj := tu []
noncomputable def o296 (P : Params) : Obj := ob vn (fO (cS 45 4) "Congestion.halved" 0 vn vn vn vn vn)
noncomputable def o297 (P : Params) : Obj := cO [(vs "halved" 598), (vs "Congestion.halved" 599), (vs "/claim/cut.py" 600), (vi 147), (vi 2), (vi 0), (vi 0), (vi 3), (vr 292), (.bool true), (vi 181), (vr 293), vn, (vr 294), (vr 295), (vr 296), (vi 604), (vi 147), (vs "/claim/cut.py" 605)]
noncomputable def o298 (P : Params) : Obj := ob (vt "function") (fO (cS 45 4) "Congestion.halved" 3 vn vn vn (vs "thinstack.congestion" 549) (vr 297))
noncomputable def o299 (P : Params) : Obj := tu []
noncomputable def o300 (P : Params) : Obj := ob vn (fl [])
noncomputable def o301 (P : Params) : Obj := tu [(vs "self" 610), (vs "octets" 611)]
noncomputable def o302 (P : Params) : Obj := tu []
noncomputable def o303 (P : Params) : Obj := ob vn (fO (cS 45 5) "Congestion.acked" 0 vn vn vn vn vn)
noncomputable def o304 (P : Params) : Obj := cO [(vs "acked" 607), (vs "Congestion.acked" 608), (vs "/claim/cut.py" 609), (vi 151), (vi 2), (vi 0), (vi 0), (vi 3), (vr 299), (.bool true), (vi 181), (vr 300), vn, (vr 301), (vr 302), (vr 303), (vi 612), (vi 151), (vs "/claim/cut.py" 613)]
noncomputable def o305 (P : Params) : Obj := ob (vt "function") (fO (cS 45 5) "Congestion.acked" 3 vn vn vn (vs "thinstack.congestion" 549) (vr 304))
noncomputable def o306 (P : Params) : Obj := tu []
noncomputable def o307 (P : Params) : Obj := ob vn (fl [])
noncomputable def o308 (P : Params) : Obj := tu [(vs "self" 618), (vs "octets" 619), (vs "most" 620)]
noncomputable def o309 (P : Params) : Obj := tu []
noncomputable def o310 (P : Params) : Obj := ob vn (fO (cS 45 6) "Congestion.slow_start" 0 vn vn vn vn vn)
noncomputable def o311 (P : Params) : Obj := cO [(vs "slow_start" 615), (vs "Congestion.slow_start" 616), (vs "/claim/cut.py" 617), (vi 161), (vi 2), (vi 0), (vi 0), (vi 3), (vr 306), (.bool true), (vi 181), (vr 307), vn, (vr 308), (vr 309), (vr 310), (vi 621), (vi 161), (vs "/claim/cut.py" 622)]
noncomputable def o312 (P : Params) : Obj := ob (vt "function") (fO (cS 45 6) "Congestion.slow_start" 3 vn vn vn (vs "thinstack.congestion" 549) (vr 311))
noncomputable def o313 (P : Params) : Obj := tu []
noncomputable def o314 (P : Params) : Obj := ob vn (fl [])
noncomputable def o315 (P : Params) : Obj := tu [(vs "self" 627), (vs "octets" 628)]
noncomputable def o316 (P : Params) : Obj := tu []
noncomputable def o317 (P : Params) : Obj := ob vn (fO (cS 45 7) "Congestion.avoid" 0 vn vn vn vn vn)
noncomputable def o318 (P : Params) : Obj := cO [(vs "avoid" 624), (vs "Congestion.avoid" 625), (vs "/claim/cut.py" 626), (vi 167), (vi 2), (vi 0), (vi 0), (vi 3), (vr 313), (.bool true), (vi 181), (vr 314), vn, (vr 315), (vr 316), (vr 317), (vi 629), (vi 167), (vs "/claim/cut.py" 630)]
noncomputable def o319 (P : Params) : Obj := ob (vt "function") (fO (cS 45 7) "Congestion.avoid" 3 vn vn vn (vs "thinstack.congestion" 549) (vr 318))
noncomputable def o320 (P : Params) : Obj := tu []
noncomputable def o321 (P : Params) : Obj := ob vn (fl [])
noncomputable def o322 (P : Params) : Obj := tu [(vs "self" 635), (vs "flight" 636)]
noncomputable def o323 (P : Params) : Obj := tu []
noncomputable def o324 (P : Params) : Obj := ob vn (fO (cS 45 8) "Congestion.duplicate" 0 vn vn vn vn vn)
noncomputable def o325 (P : Params) : Obj := cO [(vs "duplicate" 632), (vs "Congestion.duplicate" 633), (vs "/claim/cut.py" 634), (vi 173), (vi 2), (vi 0), (vi 0), (vi 3), (vr 320), (.bool true), (vi 181), (vr 321), vn, (vr 322), (vr 323), (vr 324), (vi 637), (vi 173), (vs "/claim/cut.py" 638)]
noncomputable def o326 (P : Params) : Obj := ob (vt "function") (fO (cS 45 8) "Congestion.duplicate" 3 vn vn vn (vs "thinstack.congestion" 549) (vr 325))
noncomputable def o327 (P : Params) : Obj := tu []
noncomputable def o328 (P : Params) : Obj := ob vn (fl [])
noncomputable def o329 (P : Params) : Obj := tu [(vs "self" 643)]
noncomputable def o330 (P : Params) : Obj := tu []
noncomputable def o331 (P : Params) : Obj := ob vn (fO (cS 45 9) "Congestion.recovered" 0 vn vn vn vn vn)
noncomputable def o332 (P : Params) : Obj := cO [(vs "recovered" 640), (vs "Congestion.recovered" 641), (vs "/claim/cut.py" 642), (vi 187), (vi 1), (vi 0), (vi 0), (vi 3), (vr 327), (.bool true), (vi 181), (vr 328), vn, (vr 329), (vr 330), (vr 331), (vi 644), (vi 187), (vs "/claim/cut.py" 645)]
noncomputable def o333 (P : Params) : Obj := ob (vt "function") (fO (cS 45 9) "Congestion.recovered" 3 vn vn vn (vs "thinstack.congestion" 549) (vr 332))
noncomputable def o334 (P : Params) : Obj := tu []
noncomputable def o335 (P : Params) : Obj := ob vn (fl [])
noncomputable def o336 (P : Params) : Obj := tu [(vs "self" 650), (vs "flight" 651)]
noncomputable def o337 (P : Params) : Obj := tu []
noncomputable def o338 (P : Params) : Obj := ob vn (fO (cS 45 10) "Congestion.timed_out" 0 vn vn vn vn vn)
noncomputable def o339 (P : Params) : Obj := cO [(vs "timed_out" 647), (vs "Congestion.timed_out" 648), (vs "/claim/cut.py" 649), (vi 194), (vi 2), (vi 0), (vi 0), (vi 3), (vr 334), (.bool true), (vi 181), (vr 335), vn, (vr 336), (vr 337), (vr 338), (vi 652), (vi 194), (vs "/claim/cut.py" 653)]
noncomputable def o340 (P : Params) : Obj := ob (vt "function") (fO (cS 45 10) "Congestion.timed_out" 3 vn vn vn (vs "thinstack.congestion" 549) (vr 339))
noncomputable def o341 (P : Params) : Obj := tu [(vs "duplicates" 655), (vs "gathered" 656), (vs "is_cautious" 657), (vs "is_recovering" 658), (vs "most" 659), (vs "mss" 660), (vs "size" 661), (vs "threshold" 662)]
noncomputable def o342 (P : Params) : Obj := ob (vt "dict") (dc [(en P "__module__" 560 (vs "thinstack.congestion" 549)), (en P "__firstlineno__" 564 (.int 124 563)), (en P "__init__" 574 (vr 270)), (en P "window" 581 (vr 277)), (en P "told_mss" 589 (vr 284)), (en P "grow" 597 (vr 291)), (en P "halved" 606 (vr 298)), (en P "acked" 614 (vr 305)), (en P "slow_start" 623 (vr 312)), (en P "avoid" 631 (vr 319)), (en P "duplicate" 639 (vr 326)), (en P "recovered" 646 (vr 333)), (en P "timed_out" 654 (vr 340)), (en P "__static_attributes__" 663 (vr 341)), (en P "__dict__" 665 (vr 344)), (en P "__weakref__" 667 (vr 345)), (en P "__doc__" 668 vn)] 4)
noncomputable def o343 (P : Params) : Obj := (⟨(vt "type"), none, (.cls { name := ss "Congestion", bases := [(vt "object")], mro := [(vr 343), (vt "object")], ns := 342, qualname := ss "Congestion", hasDict := true, slotNames := [], subclasses := [], abstract := false, collection := none, hasDel := false }), #[none, none, some (vs "Congestion" 553), some (vs "Congestion" 561), some (vb "object.__new__"), some (.bool true)]⟩ : Obj)
noncomputable def o344 (P : Params) : Obj := ob (vt "getset_descriptor") (fl [(vs "__dict__" 664), (vr 343), (vb "function.__dict__"), (vb "function.__dict__#set")])
noncomputable def o345 (P : Params) : Obj := ob (vt "getset_descriptor") (fl [(vs "__weakref__" 666), (vr 343), (vb "ExceptionGroup.__weakref__"), vn])
noncomputable def o346 (P : Params) : Obj := ob (vt "super") (fl [(vr 343), (vr 343), (vr 343)])
noncomputable def o347 (P : Params) : Obj := ob (vt "builtin_function_or_method") (fl [(vb "object.__init_subclass__"), (vr 343)])
noncomputable def o348 (P : Params) : Obj := tu []
noncomputable def o349 (P : Params) : Obj := ob (vt "builtin_function_or_method") (fl [(vb "type.__prepare__"), (vt "type")])
noncomputable def o350 (P : Params) : Obj := ob (vt "dict") (dc [(en P "__module__" 682 (vs "thinstack.retransmit" 671)), (en P "__qualname__" 684 (vs "RetransmitClock" 683)), (en P "__firstlineno__" 686 (.int 198 685)), (en P "__init__" 695 (vr 361)), (en P "is_timing" 702 (vr 368)), (en P "sent" 711 (vr 375)), (en P "forget" 718 (vr 382)), (en P "acked" 729 (vr 389)), (en P "back_off" 736 (vr 396)), (en P "reset_tries" 743 (vr 403)), (en P "waited" 752 (vr 410)), (en P "deadline" 760 (vr 417)), (en P "__static_attributes__" 766 (vr 418))] 13)
noncomputable def o351 (P : Params) : Obj := tu []
noncomputable def o352 (P : Params) : Obj := ob vn (fl [(vi 200), (vi 4), (vr 360), (vi 207), (vi 4), (vr 367), (vi 210), (vi 4), (vr 374), (vi 215), (vi 4), (vr 381), (vi 218), (vi 4), (vr 388), (vi 227), (vi 4), (vr 395), (vi 230), (vi 4), (vr 402), (vi 233), (vi 4), (vr 409), (vi 239), (vi 4), (vr 416)])
noncomputable def o353 (P : Params) : Obj := cO [(vs "RetransmitClock" 677), (vs "RetransmitClock" 678), (vs "/claim/cut.py" 679), (vi 198), (vi 0), (vi 0), (vi 0), (vi 0), (vr 351), (.bool false), (vi 181), (vr 352), vn, vn, vn, vn, (vi 680), (vi 198), (vs "/claim/cut.py" 681)]
noncomputable def o354 (P : Params) : Obj := (⟨(vt "frame"), none, .plain, #[some (vr 353), some (vr 3), some (vr 350), none, some (vs "thinstack.retransmit" 671), none, some (vr 0)]⟩ : Obj)
noncomputable def o355 (P : Params) : Obj := tu []
noncomputable def o356 (P : Params) : Obj := ob vn (fl [])
noncomputable def o357 (P : Params) : Obj := tu [(vs "self" 690), (vs "estimate" 691), (vs "most_tries" 692)]
noncomputable def o358 (P : Params) : Obj := tu []
noncomputable def o359 (P : Params) : Obj := ob vn (fO (cS 48 0) "RetransmitClock.__init__" 0 vn vn vn vn vn)
noncomputable def o360 (P : Params) : Obj := cO [(vs "__init__" 687), (vs "RetransmitClock.__init__" 688), (vs "/claim/cut.py" 689), (vi 200), (vi 3), (vi 0), (vi 0), (vi 3), (vr 355), (.bool true), (vi 181), (vr 356), vn, (vr 357), (vr 358), (vr 359), (vi 693), (vi 200), (vs "/claim/cut.py" 694)]
noncomputable def o361 (P : Params) : Obj := ob (vt "function") (fO (cS 48 0) "RetransmitClock.__init__" 3 vn vn vn (vs "thinstack.retransmit" 671) (vr 360))
noncomputable def o362 (P : Params) : Obj := tu []
noncomputable def o363 (P : Params) : Obj := ob vn (fl [])
noncomputable def o364 (P : Params) : Obj := tu [(vs "self" 699)]
noncomputable def o365 (P : Params) : Obj := tu []
noncomputable def o366 (P : Params) : Obj := ob vn (fO (cS 48 1) "RetransmitClock.is_timing" 0 vn vn vn vn vn)
noncomputable def o367 (P : Params) : Obj := cO [(vs "is_timing" 696), (vs "RetransmitClock.is_timing" 697), (vs "/claim/cut.py" 698), (vi 207), (vi 1), (vi 0), (vi 0), (vi 3), (vr 362), (.bool true), (vi 181), (vr 363), vn, (vr 364), (vr 365), (vr 366), (vi 700), (vi 207), (vs "/claim/cut.py" 701)]
noncomputable def o368 (P : Params) : Obj := ob (vt "function") (fO (cS 48 1) "RetransmitClock.is_timing" 3 vn vn vn (vs "thinstack.retransmit" 671) (vr 367))
noncomputable def o369 (P : Params) : Obj := tu []
noncomputable def o370 (P : Params) : Obj := ob vn (fl [])
noncomputable def o371 (P : Params) : Obj := tu [(vs "self" 706), (vs "seq_end" 707), (vs "now" 708)]
noncomputable def o372 (P : Params) : Obj := tu []
noncomputable def o373 (P : Params) : Obj := ob vn (fO (cS 48 2) "RetransmitClock.sent" 0 vn vn vn vn vn)
noncomputable def o374 (P : Params) : Obj := cO [(vs "sent" 703), (vs "RetransmitClock.sent" 704), (vs "/claim/cut.py" 705), (vi 210), (vi 3), (vi 0), (vi 0), (vi 3), (vr 369), (.bool true), (vi 181), (vr 370), vn, (vr 371), (vr 372), (vr 373), (vi 709), (vi 210), (vs "/claim/cut.py" 710)]
noncomputable def o375 (P : Params) : Obj := ob (vt "function") (fO (cS 48 2) "RetransmitClock.sent" 3 vn vn vn (vs "thinstack.retransmit" 671) (vr 374))
noncomputable def o376 (P : Params) : Obj := tu []
noncomputable def o377 (P : Params) : Obj := ob vn (fl [])
noncomputable def o378 (P : Params) : Obj := tu [(vs "self" 715)]
noncomputable def o379 (P : Params) : Obj := tu []
noncomputable def o380 (P : Params) : Obj := ob vn (fO (cS 48 3) "RetransmitClock.forget" 0 vn vn vn vn vn)
noncomputable def o381 (P : Params) : Obj := cO [(vs "forget" 712), (vs "RetransmitClock.forget" 713), (vs "/claim/cut.py" 714), (vi 215), (vi 1), (vi 0), (vi 0), (vi 3), (vr 376), (.bool true), (vi 181), (vr 377), vn, (vr 378), (vr 379), (vr 380), (vi 716), (vi 215), (vs "/claim/cut.py" 717)]
noncomputable def o382 (P : Params) : Obj := ob (vt "function") (fO (cS 48 3) "RetransmitClock.forget" 3 vn vn vn (vs "thinstack.retransmit" 671) (vr 381))
noncomputable def o383 (P : Params) : Obj := tu []
noncomputable def o384 (P : Params) : Obj := ob vn (fl [])
noncomputable def o385 (P : Params) : Obj := tu [(vs "self" 722), (vs "ack" 723), (vs "now" 724), (vs "ring" 725), (vs "measured" 726)]
noncomputable def o386 (P : Params) : Obj := tu []
noncomputable def o387 (P : Params) : Obj := ob vn (fO (cS 48 4) "RetransmitClock.acked" 0 vn vn vn vn vn)
noncomputable def o388 (P : Params) : Obj := cO [(vs "acked" 719), (vs "RetransmitClock.acked" 720), (vs "/claim/cut.py" 721), (vi 218), (vi 4), (vi 0), (vi 0), (vi 3), (vr 383), (.bool true), (vi 181), (vr 384), vn, (vr 385), (vr 386), (vr 387), (vi 727), (vi 218), (vs "/claim/cut.py" 728)]
noncomputable def o389 (P : Params) : Obj := ob (vt "function") (fO (cS 48 4) "RetransmitClock.acked" 3 vn vn vn (vs "thinstack.retransmit" 671) (vr 388))
noncomputable def o390 (P : Params) : Obj := tu []
noncomputable def o391 (P : Params) : Obj := ob vn (fl [])
noncomputable def o392 (P : Params) : Obj := tu [(vs "self" 733)]
noncomputable def o393 (P : Params) : Obj := tu []
noncomputable def o394 (P : Params) : Obj := ob vn (fO (cS 48 5) "RetransmitClock.back_off" 0 vn vn vn vn vn)
noncomputable def o395 (P : Params) : Obj := cO [(vs "back_off" 730), (vs "RetransmitClock.back_off" 731), (vs "/claim/cut.py" 732), (vi 227), (vi 1), (vi 0), (vi 0), (vi 3), (vr 390), (.bool true), (vi 181), (vr 391), vn, (vr 392), (vr 393), (vr 394), (vi 734), (vi 227), (vs "/claim/cut.py" 735)]
noncomputable def o396 (P : Params) : Obj := ob (vt "function") (fO (cS 48 5) "RetransmitClock.back_off" 3 vn vn vn (vs "thinstack.retransmit" 671) (vr 395))
noncomputable def o397 (P : Params) : Obj := tu []
noncomputable def o398 (P : Params) : Obj := ob vn (fl [])
noncomputable def o399 (P : Params) : Obj := tu [(vs "self" 740)]
noncomputable def o400 (P : Params) : Obj := tu []
noncomputable def o401 (P : Params) : Obj := ob vn (fO (cS 48 6) "RetransmitClock.reset_tries" 0 vn vn vn vn vn)
noncomputable def o402 (P : Params) : Obj := cO [(vs "reset_tries" 737), (vs "RetransmitClock.reset_tries" 738), (vs "/claim/cut.py" 739), (vi 230), (vi 1), (vi 0), (vi 0), (vi 3), (vr 397), (.bool true), (vi 181), (vr 398), vn, (vr 399), (vr 400), (vr 401), (vi 741), (vi 230), (vs "/claim/cut.py" 742)]
noncomputable def o403 (P : Params) : Obj := ob (vt "function") (fO (cS 48 6) "RetransmitClock.reset_tries" 3 vn vn vn (vs "thinstack.retransmit" 671) (vr 402))
noncomputable def o404 (P : Params) : Obj := tu []
noncomputable def o405 (P : Params) : Obj := ob vn (fl [])
noncomputable def o406 (P : Params) : Obj := tu [(vs "self" 747), (vs "ticks" 748), (vs "turn" 749)]
noncomputable def o407 (P : Params) : Obj := tu []
noncomputable def o408 (P : Params) : Obj := ob vn (fO (cS 48 7) "RetransmitClock.waited" 0 vn vn vn vn vn)
noncomputable def o409 (P : Params) : Obj := cO [(vs "waited" 744), (vs "RetransmitClock.waited" 745), (vs "/claim/cut.py" 746), (vi 233), (vi 1), (vi 0), (vi 0), (vi 3), (vr 404), (.bool true), (vi 181), (vr 405), vn, (vr 406), (vr 407), (vr 408), (vi 750), (vi 233), (vs "/claim/cut.py" 751)]
noncomputable def o410 (P : Params) : Obj := ob (vt "function") (fO (cS 48 7) "RetransmitClock.waited" 3 vn vn vn (vs "thinstack.retransmit" 671) (vr 409))
noncomputable def o411 (P : Params) : Obj := tu []
noncomputable def o412 (P : Params) : Obj := ob vn (fl [])
noncomputable def o413 (P : Params) : Obj := tu [(vs "self" 756), (vs "now" 757)]
noncomputable def o414 (P : Params) : Obj := tu []
noncomputable def o415 (P : Params) : Obj := ob vn (fO (cS 48 8) "RetransmitClock.deadline" 0 vn vn vn vn vn)
noncomputable def o416 (P : Params) : Obj := cO [(vs "deadline" 753), (vs "RetransmitClock.deadline" 754), (vs "/claim/cut.py" 755), (vi 239), (vi 2), (vi 0), (vi 0), (vi 3), (vr 411), (.bool true), (vi 181), (vr 412), vn, (vr 413), (vr 414), (vr 415), (vi 758), (vi 239), (vs "/claim/cut.py" 759)]
noncomputable def o417 (P : Params) : Obj := ob (vt "function") (fO (cS 48 8) "RetransmitClock.deadline" 3 vn vn vn (vs "thinstack.retransmit" 671) (vr 416))
noncomputable def o418 (P : Params) : Obj := tu [(vs "estimate" 761), (vs "most_tries" 762), (vs "timed_at" 763), (vs "timed_end" 764), (vs "tries" 765)]
noncomputable def o419 (P : Params) : Obj := ob (vt "dict") (dc [(en P "__module__" 682 (vs "thinstack.retransmit" 671)), (en P "__firstlineno__" 686 (.int 198 685)), (en P "__init__" 695 (vr 361)), (en P "is_timing" 702 (vr 368)), (en P "sent" 711 (vr 375)), (en P "forget" 718 (vr 382)), (en P "acked" 729 (vr 389)), (en P "back_off" 736 (vr 396)), (en P "reset_tries" 743 (vr 403)), (en P "waited" 752 (vr 410)), (en P "deadline" 760 (vr 417)), (en P "__static_attributes__" 766 (vr 418)), (en P "__dict__" 768 (vr 421)), (en P "__weakref__" 770 (vr 422)), (en P "__doc__" 771 vn)] 4)
noncomputable def o420 (P : Params) : Obj := (⟨(vt "type"), none, (.cls { name := ss "RetransmitClock", bases := [(vt "object")], mro := [(vr 420), (vt "object")], ns := 419, qualname := ss "RetransmitClock", hasDict := true, slotNames := [], subclasses := [], abstract := false, collection := none, hasDel := false }), #[none, none, some (vs "RetransmitClock" 675), some (vs "RetransmitClock" 683), some (vb "object.__new__"), some (.bool true)]⟩ : Obj)
noncomputable def o421 (P : Params) : Obj := ob (vt "getset_descriptor") (fl [(vs "__dict__" 767), (vr 420), (vb "function.__dict__"), (vb "function.__dict__#set")])
noncomputable def o422 (P : Params) : Obj := ob (vt "getset_descriptor") (fl [(vs "__weakref__" 769), (vr 420), (vb "ExceptionGroup.__weakref__"), vn])
noncomputable def o423 (P : Params) : Obj := ob (vt "super") (fl [(vr 420), (vr 420), (vr 420)])
noncomputable def o424 (P : Params) : Obj := ob (vt "builtin_function_or_method") (fl [(vb "object.__init_subclass__"), (vr 420)])
noncomputable def o425 (P : Params) : Obj := tu []
noncomputable def o426 (P : Params) : Obj := ob (vt "builtin_function_or_method") (fl [(vb "type.__prepare__"), (vt "type")])
noncomputable def o427 (P : Params) : Obj := ob (vt "dict") (dc [(en P "__module__" 783 (vs "thinstack.rtt" 774)), (en P "__qualname__" 785 (vs "RttEstimate" 784)), (en P "__firstlineno__" 787 (.int 242 786)), (en P "__init__" 797 (vr 438)), (en P "sample" 806 (vr 445)), (en P "mean" 813 (vr 452)), (en P "plain_timeout" 820 (vr 459)), (en P "timeout" 827 (vr 466)), (en P "bounded" 835 (vr 473)), (en P "__static_attributes__" 842 (vr 474))] 10)
noncomputable def o428 (P : Params) : Obj := tu []
noncomputable def o429 (P : Params) : Obj := ob vn (fl [(vi 244), (vi 4), (vr 437), (vi 252), (vi 4), (vr 444), (vi 264), (vi 4), (vr 451), (vi 267), (vi 4), (vr 458), (vi 272), (vi 4), (vr 465), (vi 275), (vi 4), (vr 472)])
noncomputable def o430 (P : Params) : Obj := cO [(vs "RttEstimate" 778), (vs "RttEstimate" 779), (vs "/claim/cut.py" 780), (vi 242), (vi 0), (vi 0), (vi 0), (vi 0), (vr 428), (.bool false), (vi 181), (vr 429), vn, vn, vn, vn, (vi 781), (vi 242), (vs "/claim/cut.py" 782)]
noncomputable def o431 (P : Params) : Obj := (⟨(vt "frame"), none, .plain, #[some (vr 430), some (vr 3), some (vr 427), none, some (vs "thinstack.rtt" 774), none, some (vr 0)]⟩ : Obj)
noncomputable def o432 (P : Params) : Obj := tu []
noncomputable def o433 (P : Params) : Obj := ob vn (fl [])
noncomputable def o434 (P : Params) : Obj := tu [(vs "self" 791), (vs "first" 792), (vs "least" 793), (vs "most" 794)]
noncomputable def o435 (P : Params) : Obj := tu []
noncomputable def o436 (P : Params) : Obj := ob vn (fO (cS 50 0) "RttEstimate.__init__" 0 vn vn vn vn vn)
noncomputable def o437 (P : Params) : Obj := cO [(vs "__init__" 788), (vs "RttEstimate.__init__" 789), (vs "/claim/cut.py" 790), (vi 244), (vi 4), (vi 0), (vi 0), (vi 3), (vr 432), (.bool true), (vi 181), (vr 433), vn, (vr 434), (vr 435), (vr 436), (vi 795), (vi 244), (vs "/claim/cut.py" 796)]
noncomputable def o438 (P : Params) : Obj := ob (vt "function") (fO (cS 50 0) "RttEstimate.__init__" 3 vn vn vn (vs "thinstack.rtt" 774) (vr 437))
noncomputable def o439 (P : Params) : Obj := tu []
noncomputable def o440 (P : Params) : Obj := ob vn (fl [])
noncomputable def o441 (P : Params) : Obj := tu [(vs "self" 801), (vs "measured" 802), (vs "apart" 803)]
noncomputable def o442 (P : Params) : Obj := tu []
noncomputable def o443 (P : Params) : Obj := ob vn (fO (cS 50 1) "RttEstimate.sample" 0 vn vn vn vn vn)
noncomputable def o444 (P : Params) : Obj := cO [(vs "sample" 798), (vs "RttEstimate.sample" 799), (vs "/claim/cut.py" 800), (vi 252), (vi 2), (vi 0), (vi 0), (vi 3), (vr 439), (.bool true), (vi 181), (vr 440), vn, (vr 441), (vr 442), (vr 443), (vi 804), (vi 252), (vs "/claim/cut.py" 805)]
noncomputable def o445 (P : Params) : Obj := ob (vt "function") (fO (cS 50 1) "RttEstimate.sample" 3 vn vn vn (vs "thinstack.rtt" 774) (vr 444))
noncomputable def o446 (P : Params) : Obj := tu []
noncomputable def o447 (P : Params) : Obj := ob vn (fl [])
noncomputable def o448 (P : Params) : Obj := tu [(vs "self" 810)]
noncomputable def o449 (P : Params) : Obj := tu []
noncomputable def o450 (P : Params) : Obj := ob vn (fO (cS 50 2) "RttEstimate.mean" 0 vn vn vn vn vn)
noncomputable def o451 (P : Params) : Obj := cO [(vs "mean" 807), (vs "RttEstimate.mean" 808), (vs "/claim/cut.py" 809), (vi 264), (vi 1), (vi 0), (vi 0), (vi 3), (vr 446), (.bool true), (vi 181), (vr 447), vn, (vr 448), (vr 449), (vr 450), (vi 811), (vi 264), (vs "/claim/cut.py" 812)]
noncomputable def o452 (P : Params) : Obj := ob (vt "function") (fO (cS 50 2) "RttEstimate.mean" 3 vn vn vn (vs "thinstack.rtt" 774) (vr 451))
noncomputable def o453 (P : Params) : Obj := tu []
noncomputable def o454 (P : Params) : Obj := ob vn (fl [])
noncomputable def o455 (P : Params) : Obj := tu [(vs "self" 817)]
noncomputable def o456 (P : Params) : Obj := tu []
noncomputable def o457 (P : Params) : Obj := ob vn (fO (cS 50 3) "RttEstimate.plain_timeout" 0 vn vn vn vn vn)
noncomputable def o458 (P : Params) : Obj := cO [(vs "plain_timeout" 814), (vs "RttEstimate.plain_timeout" 815), (vs "/claim/cut.py" 816), (vi 267), (vi 1), (vi 0), (vi 0), (vi 3), (vr 453), (.bool true), (vi 181), (vr 454), vn, (vr 455), (vr 456), (vr 457), (vi 818), (vi 267), (vs "/claim/cut.py" 819)]
noncomputable def o459 (P : Params) : Obj := ob (vt "function") (fO (cS 50 3) "RttEstimate.plain_timeout" 3 vn vn vn (vs "thinstack.rtt" 774) (vr 458))
noncomputable def o460 (P : Params) : Obj := tu []
noncomputable def o461 (P : Params) : Obj := ob vn (fl [])
noncomputable def o462 (P : Params) : Obj := tu [(vs "self" 824)]
noncomputable def o463 (P : Params) : Obj := tu []
noncomputable def o464 (P : Params) : Obj := ob vn (fO (cS 50 4) "RttEstimate.timeout" 0 vn vn vn vn vn)
noncomputable def o465 (P : Params) : Obj := cO [(vs "timeout" 821), (vs "RttEstimate.timeout" 822), (vs "/claim/cut.py" 823), (vi 272), (vi 1), (vi 0), (vi 0), (vi 3), (vr 460), (.bool true), (vi 181), (vr 461), vn, (vr 462), (vr 463), (vr 464), (vi 825), (vi 272), (vs "/claim/cut.py" 826)]
noncomputable def o466 (P : Params) : Obj := ob (vt "function") (fO (cS 50 4) "RttEstimate.timeout" 3 vn vn vn (vs "thinstack.rtt" 774) (vr 465))
noncomputable def o467 (P : Params) : Obj := tu []
noncomputable def o468 (P : Params) : Obj := ob vn (fl [])
noncomputable def o469 (P : Params) : Obj := tu [(vs "self" 831), (vs "ticks" 832)]
noncomputable def o470 (P : Params) : Obj := tu []
noncomputable def o471 (P : Params) : Obj := ob vn (fO (cS 50 5) "RttEstimate.bounded" 0 vn vn vn vn vn)
noncomputable def o472 (P : Params) : Obj := cO [(vs "bounded" 828), (vs "RttEstimate.bounded" 829), (vs "/claim/cut.py" 830), (vi 275), (vi 2), (vi 0), (vi 0), (vi 3), (vr 467), (.bool true), (vi 181), (vr 468), vn, (vr 469), (vr 470), (vr 471), (vi 833), (vi 275), (vs "/claim/cut.py" 834)]
noncomputable def o473 (P : Params) : Obj := ob (vt "function") (fO (cS 50 5) "RttEstimate.bounded" 3 vn vn vn (vs "thinstack.rtt" 774) (vr 472))
noncomputable def o474 (P : Params) : Obj := tu [(vs "first" 836), (vs "least" 837), (vs "mean8" 838), (vs "measured" 839), (vs "most" 840), (vs "spread4" 841)]
noncomputable def o475 (P : Params) : Obj := ob (vt "dict") (dc [(en P "__module__" 783 (vs "thinstack.rtt" 774)), (en P "__firstlineno__" 787 (.int 242 786)), (en P "__init__" 797 (vr 438)), (en P "sample" 806 (vr 445)), (en P "mean" 813 (vr 452)), (en P "plain_timeout" 820 (vr 459)), (en P "timeout" 827 (vr 466)), (en P "bounded" 835 (vr 473)), (en P "__static_attributes__" 842 (vr 474)), (en P "__dict__" 844 (vr 477)), (en P "__weakref__" 846 (vr 478)), (en P "__doc__" 847 vn)] 4)
noncomputable def o476 (P : Params) : Obj := (⟨(vt "type"), none, (.cls { name := ss "RttEstimate", bases := [(vt "object")], mro := [(vr 476), (vt "object")], ns := 475, qualname := ss "RttEstimate", hasDict := true, slotNames := [], subclasses := [], abstract := false, collection := none, hasDel := false }), #[none, none, some (vs "RttEstimate" 776), some (vs "RttEstimate" 784), some (vb "object.__new__"), some (.bool true)]⟩ : Obj)
noncomputable def o477 (P : Params) : Obj := ob (vt "getset_descriptor") (fl [(vs "__dict__" 843), (vr 476), (vb "function.__dict__"), (vb "function.__dict__#set")])
noncomputable def o478 (P : Params) : Obj := ob (vt "getset_descriptor") (fl [(vs "__weakref__" 845), (vr 476), (vb "ExceptionGroup.__weakref__"), vn])
noncomputable def o479 (P : Params) : Obj := ob (vt "super") (fl [(vr 476), (vr 476), (vr 476)])
noncomputable def o480 (P : Params) : Obj := ob (vt "builtin_function_or_method") (fl [(vb "object.__init_subclass__"), (vr 476)])
noncomputable def o481 (P : Params) : Obj := tu []
noncomputable def o482 (P : Params) : Obj := ob (vt "builtin_function_or_method") (fl [(vb "type.__prepare__"), (vt "type")])
noncomputable def o483 (P : Params) : Obj := ob (vt "dict") (dc [(en P "__module__" 859 (vs "thinstack.send_queue" 850)), (en P "__qualname__" 861 (vs "SendQueue" 860)), (en P "__firstlineno__" 863 (.int 280 862)), (en P "__init__" 871 (vr 494)), (en P "size" 878 (vr 501)), (en P "room_left" 885 (vr 508)), (en P "put" 894 (vr 515)), (en P "part" 903 (vr 522)), (en P "drop" 911 (vr 529)), (en P "__static_attributes__" 914 (vr 530))] 10)
noncomputable def o484 (P : Params) : Obj := tu []
noncomputable def o485 (P : Params) : Obj := ob vn (fl [(vi 282), (vi 4), (vr 493), (vi 288), (vi 4), (vr 500), (vi 291), (vi 4), (vr 507), (vi 294), (vi 4), (vr 514), (vi 299), (vi 4), (vr 521), (vi 304), (vi 4), (vr 528)])
noncomputable def o486 (P : Params) : Obj := cO [(vs "SendQueue" 854), (vs "SendQueue" 855), (vs "/claim/cut.py" 856), (vi 280), (vi 0), (vi 0), (vi 0), (vi 0), (vr 484), (.bool false), (vi 181), (vr 485), vn, vn, vn, vn, (vi 857), (vi 280), (vs "/claim/cut.py" 858)]
noncomputable def o487 (P : Params) : Obj := (⟨(vt "frame"), none, .plain, #[some (vr 486), some (vr 3), some (vr 483), none, some (vs "thinstack.send_queue" 850), none, some (vr 0)]⟩ : Obj)
noncomputable def o488 (P : Params) : Obj := tu []
noncomputable def o489 (P : Params) : Obj := ob vn (fl [])
noncomputable def o490 (P : Params) : Obj := tu [(vs "self" 867), (vs "room" 868)]
noncomputable def o491 (P : Params) : Obj := tu []
noncomputable def o492 (P : Params) : Obj := ob vn (fO (cS 52 0) "SendQueue.__init__" 0 vn vn vn vn vn)
noncomputable def o493 (P : Params) : Obj := cO [(vs "__init__" 864), (vs "SendQueue.__init__" 865), (vs "/claim/cut.py" 866), (vi 282), (vi 2), (vi 0), (vi 0), (vi 3), (vr 488), (.bool true), (vi 181), (vr 489), vn, (vr 490), (vr 491), (vr 492), (vi 869), (vi 282), (vs "/claim/cut.py" 870)]
noncomputable def o494 (P : Params) : Obj := ob (vt "function") (fO (cS 52 0) "SendQueue.__init__" 3 vn vn vn (vs "thinstack.send_queue" 850) (vr 493))
noncomputable def o495 (P : Params) : Obj := tu []
noncomputable def o496 (P : Params) : Obj := ob vn (fl [])
noncomputable def o497 (P : Params) : Obj := tu [(vs "self" 875)]
noncomputable def o498 (P : Params) : Obj := tu []
noncomputable def o499 (P : Params) : Obj := ob vn (fO (cS 52 1) "SendQueue.size" 0 vn vn vn vn vn)
noncomputable def o500 (P : Params) : Obj := cO [(vs "size" 872), (vs "SendQueue.size" 873), (vs "/claim/cut.py" 874), (vi 288), (vi 1), (vi 0), (vi 0), (vi 3), (vr 495), (.bool true), (vi 181), (vr 496), vn, (vr 497), (vr 498), (vr 499), (vi 876), (vi 288), (vs "/claim/cut.py" 877)]
noncomputable def o501 (P : Params) : Obj := ob (vt "function") (fO (cS 52 1) "SendQueue.size" 3 vn vn vn (vs "thinstack.send_queue" 850) (vr 500))
noncomputable def o502 (P : Params) : Obj := tu []
noncomputable def o503 (P : Params) : Obj := ob vn (fl [])
noncomputable def o504 (P : Params) : Obj := tu [(vs "self" 882)]
noncomputable def o505 (P : Params) : Obj := tu []
noncomputable def o506 (P : Params) : Obj := ob vn (fO (cS 52 2) "SendQueue.room_left" 0 vn vn vn vn vn)
noncomputable def o507 (P : Params) : Obj := cO [(vs "room_left" 879), (vs "SendQueue.room_left" 880), (vs "/claim/cut.py" 881), (vi 291), (vi 1), (vi 0), (vi 0), (vi 3), (vr 502), (.bool true), (vi 181), (vr 503), vn, (vr 504), (vr 505), (vr 506), (vi 883), (vi 291), (vs "/claim/cut.py" 884)]
noncomputable def o508 (P : Params) : Obj := ob (vt "function") (fO (cS 52 2) "SendQueue.room_left" 3 vn vn vn (vs "thinstack.send_queue" 850) (vr 507))
noncomputable def o509 (P : Params) : Obj := tu []
noncomputable def o510 (P : Params) : Obj := ob vn (fl [])
noncomputable def o511 (P : Params) : Obj := tu [(vs "self" 889), (vs "octets" 890), (vs "taken" 891)]
noncomputable def o512 (P : Params) : Obj := tu []
noncomputable def o513 (P : Params) : Obj := ob vn (fO (cS 52 3) "SendQueue.put" 0 vn vn vn vn vn)
noncomputable def o514 (P : Params) : Obj := cO [(vs "put" 886), (vs "SendQueue.put" 887), (vs "/claim/cut.py" 888), (vi 294), (vi 2), (vi 0), (vi 0), (vi 3), (vr 509), (.bool true), (vi 181), (vr 510), vn, (vr 511), (vr 512), (vr 513), (vi 892), (vi 294), (vs "/claim/cut.py" 893)]
noncomputable def o515 (P : Params) : Obj := ob (vt "function") (fO (cS 52 3) "SendQueue.put" 3 vn vn vn (vs "thinstack.send_queue" 850) (vr 514))
noncomputable def o516 (P : Params) : Obj := tu []
noncomputable def o517 (P : Params) : Obj := ob vn (fl [])
noncomputable def o518 (P : Params) : Obj := tu [(vs "self" 898), (vs "at" 899), (vs "many" 900)]
noncomputable def o519 (P : Params) : Obj := tu []
noncomputable def o520 (P : Params) : Obj := ob vn (fO (cS 52 4) "SendQueue.part" 0 vn vn vn vn vn)
noncomputable def o521 (P : Params) : Obj := cO [(vs "part" 895), (vs "SendQueue.part" 896), (vs "/claim/cut.py" 897), (vi 299), (vi 3), (vi 0), (vi 0), (vi 3), (vr 516), (.bool true), (vi 181), (vr 517), vn, (vr 518), (vr 519), (vr 520), (vi 901), (vi 299), (vs "/claim/cut.py" 902)]
noncomputable def o522 (P : Params) : Obj := ob (vt "function") (fO (cS 52 4) "SendQueue.part" 3 vn vn vn (vs "thinstack.send_queue" 850) (vr 521))
noncomputable def o523 (P : Params) : Obj := tu []
noncomputable def o524 (P : Params) : Obj := ob vn (fl [])
noncomputable def o525 (P : Params) : Obj := tu [(vs "self" 907), (vs "many" 908)]
noncomputable def o526 (P : Params) : Obj := tu []
noncomputable def o527 (P : Params) : Obj := ob vn (fO (cS 52 5) "SendQueue.drop" 0 vn vn vn vn vn)
noncomputable def o528 (P : Params) : Obj := cO [(vs "drop" 904), (vs "SendQueue.drop" 905), (vs "/claim/cut.py" 906), (vi 304), (vi 2), (vi 0), (vi 0), (vi 3), (vr 523), (.bool true), (vi 181), (vr 524), vn, (vr 525), (vr 526), (vr 527), (vi 909), (vi 304), (vs "/claim/cut.py" 910)]
noncomputable def o529 (P : Params) : Obj := ob (vt "function") (fO (cS 52 5) "SendQueue.drop" 3 vn vn vn (vs "thinstack.send_queue" 850) (vr 528))
noncomputable def o530 (P : Params) : Obj := tu [(vs "held" 912), (vs "room" 913)]
noncomputable def o531 (P : Params) : Obj := ob (vt "dict") (dc [(en P "__module__" 859 (vs "thinstack.send_queue" 850)), (en P "__firstlineno__" 863 (.int 280 862)), (en P "__init__" 871 (vr 494)), (en P "size" 878 (vr 501)), (en P "room_left" 885 (vr 508)), (en P "put" 894 (vr 515)), (en P "part" 903 (vr 522)), (en P "drop" 911 (vr 529)), (en P "__static_attributes__" 914 (vr 530)), (en P "__dict__" 916 (vr 533)), (en P "__weakref__" 918 (vr 534)), (en P "__doc__" 919 vn)] 4)
noncomputable def o532 (P : Params) : Obj := (⟨(vt "type"), none, (.cls { name := ss "SendQueue", bases := [(vt "object")], mro := [(vr 532), (vt "object")], ns := 531, qualname := ss "SendQueue", hasDict := true, slotNames := [], subclasses := [], abstract := false, collection := none, hasDel := false }), #[none, none, some (vs "SendQueue" 852), some (vs "SendQueue" 860), some (vb "object.__new__"), some (.bool true)]⟩ : Obj)
noncomputable def o533 (P : Params) : Obj := ob (vt "getset_descriptor") (fl [(vs "__dict__" 915), (vr 532), (vb "function.__dict__"), (vb "function.__dict__#set")])
noncomputable def o534 (P : Params) : Obj := ob (vt "getset_descriptor") (fl [(vs "__weakref__" 917), (vr 532), (vb "ExceptionGroup.__weakref__"), vn])
noncomputable def o535 (P : Params) : Obj := ob (vt "super") (fl [(vr 532), (vr 532), (vr 532)])
noncomputable def o536 (P : Params) : Obj := ob (vt "builtin_function_or_method") (fl [(vb "object.__init_subclass__"), (vr 532)])
noncomputable def o537 (P : Params) : Obj := tu []
noncomputable def o538 (P : Params) : Obj := ob (vt "builtin_function_or_method") (fl [(vb "type.__prepare__"), (vt "type")])
noncomputable def o539 (P : Params) : Obj := ob (vt "dict") (dc [(en P "__module__" 931 (vs "thinstack.sender" 922)), (en P "__qualname__" 933 (vs "PeerWindow" 932)), (en P "__firstlineno__" 935 (.int 309 934)), (en P "__init__" 943 (vr 550)), (en P "is_newer" 953 (vr 557)), (en P "take" 963 (vr 564)), (en P "keep_edge" 971 (vr 571)), (en P "__static_attributes__" 977 (vr 572))] 8)
noncomputable def o540 (P : Params) : Obj := tu []
noncomputable def o541 (P : Params) : Obj := ob vn (fl [(vi 311), (vi 4), (vr 549), (vi 318), (vi 4), (vr 556), (vi 326), (vi 4), (vr 563), (vi 335), (vi 4), (vr 570)])
noncomputable def o542 (P : Params) : Obj := cO [(vs "PeerWindow" 926), (vs "PeerWindow" 927), (vs "/claim/cut.py" 928), (vi 309), (vi 0), (vi 0), (vi 0), (vi 0), (vr 540), (.bool false), (vi 181), (vr 541), vn, vn, vn, vn, (vi 929), (vi 309), (vs "/claim/cut.py" 930)]
noncomputable def o543 (P : Params) : Obj := (⟨(vt "frame"), none, .plain, #[some (vr 542), some (vr 3), some (vr 539), none, some (vs "thinstack.sender" 922), none, some (vr 0)]⟩ : Obj)
noncomputable def o544 (P : Params) : Obj := tu []
noncomputable def o545 (P : Params) : Obj := ob vn (fl [])
noncomputable def o546 (P : Params) : Obj := tu [(vs "self" 939), (vs "ring" 940)]
noncomputable def o547 (P : Params) : Obj := tu []
noncomputable def o548 (P : Params) : Obj := ob vn (fO (cS 54 0) "PeerWindow.__init__" 0 vn vn vn vn vn)
noncomputable def o549 (P : Params) : Obj := cO [(vs "__init__" 936), (vs "PeerWindow.__init__" 937), (vs "/claim/cut.py" 938), (vi 311), (vi 2), (vi 0), (vi 0), (vi 3), (vr 544), (.bool true), (vi 181), (vr 545), vn, (vr 546), (vr 547), (vr 548), (vi 941), (vi 311), (vs "/claim/cut.py" 942)]
noncomputable def o550 (P : Params) : Obj := ob (vt "function") (fO (cS 54 0) "PeerWindow.__init__" 3 vn vn vn (vs "thinstack.sender" 922) (vr 549))
noncomputable def o551 (P : Params) : Obj := tu []
noncomputable def o552 (P : Params) : Obj := ob vn (fl [])
noncomputable def o553 (P : Params) : Obj := tu [(vs "self" 947), (vs "seq" 948), (vs "ack" 949), (vs "ahead" 950)]
noncomputable def o554 (P : Params) : Obj := tu []
noncomputable def o555 (P : Params) : Obj := ob vn (fO (cS 54 1) "PeerWindow.is_newer" 0 vn vn vn vn vn)
noncomputable def o556 (P : Params) : Obj := cO [(vs "is_newer" 944), (vs "PeerWindow.is_newer" 945), (vs "/claim/cut.py" 946), (vi 318), (vi 3), (vi 0), (vi 0), (vi 3), (vr 551), (.bool true), (vi 181), (vr 552), vn, (vr 553), (vr 554), (vr 555), (vi 951), (vi 318), (vs "/claim/cut.py" 952)]
noncomputable def o557 (P : Params) : Obj := ob (vt "function") (fO (cS 54 1) "PeerWindow.is_newer" 3 vn vn vn (vs "thinstack.sender" 922) (vr 556))
noncomputable def o558 (P : Params) : Obj := tu []
noncomputable def o559 (P : Params) : Obj := ob vn (fl [])
noncomputable def o560 (P : Params) : Obj := tu [(vs "self" 957), (vs "seq" 958), (vs "ack" 959), (vs "size" 960)]
noncomputable def o561 (P : Params) : Obj := tu []
noncomputable def o562 (P : Params) : Obj := ob vn (fO (cS 54 2) "PeerWindow.take" 0 vn vn vn vn vn)
noncomputable def o563 (P : Params) : Obj := cO [(vs "take" 954), (vs "PeerWindow.take" 955), (vs "/claim/cut.py" 956), (vi 326), (vi 4), (vi 0), (vi 0), (vi 3), (vr 558), (.bool true), (vi 181), (vr 559), vn, (vr 560), (vr 561), (vr 562), (vi 961), (vi 326), (vs "/claim/cut.py" 962)]
noncomputable def o564 (P : Params) : Obj := ob (vt "function") (fO (cS 54 2) "PeerWindow.take" 3 vn vn vn (vs "thinstack.sender" 922) (vr 563))
noncomputable def o565 (P : Params) : Obj := tu []
noncomputable def o566 (P : Params) : Obj := ob vn (fl [])
noncomputable def o567 (P : Params) : Obj := tu [(vs "self" 967), (vs "many" 968)]
noncomputable def o568 (P : Params) : Obj := tu []
noncomputable def o569 (P : Params) : Obj := ob vn (fO (cS 54 3) "PeerWindow.keep_edge" 0 vn vn vn vn vn)
noncomputable def o570 (P : Params) : Obj := cO [(vs "keep_edge" 964), (vs "PeerWindow.keep_edge" 965), (vs "/claim/cut.py" 966), (vi 335), (vi 2), (vi 0), (vi 0), (vi 3), (vr 565), (.bool true), (vi 181), (vr 566), vn, (vr 567), (vr 568), (vr 569), (vi 969), (vi 335), (vs "/claim/cut.py" 970)]
noncomputable def o571 (P : Params) : Obj := ob (vt "function") (fO (cS 54 3) "PeerWindow.keep_edge" 3 vn vn vn (vs "thinstack.sender" 922) (vr 570))
noncomputable def o572 (P : Params) : Obj := tu [(vs "most" 972), (vs "ring" 973), (vs "size" 974), (vs "told_ack" 975), (vs "told_seq" 976)]
noncomputable def o573 (P : Params) : Obj := ob (vt "dict") (dc [(en P "__module__" 931 (vs "thinstack.sender" 922)), (en P "__firstlineno__" 935 (.int 309 934)), (en P "__init__" 943 (vr 550)), (en P "is_newer" 953 (vr 557)), (en P "take" 963 (vr 564)), (en P "keep_edge" 971 (vr 571)), (en P "__static_attributes__" 977 (vr 572)), (en P "__dict__" 979 (vr 575)), (en P "__weakref__" 981 (vr 576)), (en P "__doc__" 982 vn)] 4)
noncomputable def o574 (P : Params) : Obj := (⟨(vt "type"), none, (.cls { name := ss "PeerWindow", bases := [(vt "object")], mro := [(vr 574), (vt "object")], ns := 573, qualname := ss "PeerWindow", hasDict := true, slotNames := [], subclasses := [], abstract := false, collection := none, hasDel := false }), #[none, none, some (vs "PeerWindow" 924), some (vs "PeerWindow" 932), some (vb "object.__new__"), some (.bool true)]⟩ : Obj)
noncomputable def o575 (P : Params) : Obj := ob (vt "getset_descriptor") (fl [(vs "__dict__" 978), (vr 574), (vb "function.__dict__"), (vb "function.__dict__#set")])
noncomputable def o576 (P : Params) : Obj := ob (vt "getset_descriptor") (fl [(vs "__weakref__" 980), (vr 574), (vb "ExceptionGroup.__weakref__"), vn])
noncomputable def o577 (P : Params) : Obj := ob (vt "super") (fl [(vr 574), (vr 574), (vr 574)])
noncomputable def o578 (P : Params) : Obj := ob (vt "builtin_function_or_method") (fl [(vb "object.__init_subclass__"), (vr 574)])
noncomputable def o579 (P : Params) : Obj := tu []
noncomputable def o580 (P : Params) : Obj := ob (vt "builtin_function_or_method") (fl [(vb "type.__prepare__"), (vt "type")])
noncomputable def o581 (P : Params) : Obj := ob (vt "dict") (dc [(en P "__module__" 992 (vs "thinstack.sender" 922)), (en P "__qualname__" 994 (vs "Sender" 993)), (en P "__firstlineno__" 996 (.int 337 995)), (en P "__init__" 1007 (vr 592)), (en P "window" 1015 (vr 600)), (en P "take_window" 1025 (vr 607)), (en P "put" 1033 (vr 614)), (en P "ask_fin" 1040 (vr 621)), (en P "flight" 1047 (vr 628)), (en P "usable" 1055 (vr 635)), (en P "data_sent" 1062 (vr 642)), (en P "unsent" 1069 (vr 649)), (en P "is_fin_due" 1077 (vr 656)), (en P "is_fin_acked" 1084 (vr 663)), (en P "is_all_acked" 1091 (vr 670)), (en P "go_on" 1099 (vr 677)), (en P "start" 1106 (vr 684)), (en P "may_go" 1115 (vr 691)), (en P "pieces" 1126 (vr 699)), (en P "piece_of" 1139 (vr 706)), (en P "ever_sent" 1146 (vr 713)), (en P "first_piece" 1156 (vr 720)), (en P "reach" 1164 (vr 727)), (en P "back_to" 1172 (vr 734)), (en P "is_idle_with_more" 1179 (vr 741)), (en P "needs_probe" 1187 (vr 748)), (en P "probe" 1194 (vr 755)), (en P "acked" 1206 (vr 762)), (en P "__static_attributes__" 1218 (vr 763))] 29)
noncomputable def o582 (P : Params) : Obj := tu []
noncomputable def o583 (P : Params) : Obj := ob vn (fl [(vi 339), (vi 4), (vr 591), (vi 353), (vi 4), (vr 598), (vi 356), (vi 4), (vr 606), (vi 359), (vi 4), (vr 613), (vi 364), (vi 4), (vr 620), (vi 367), (vi 4), (vr 627), (vi 370), (vi 4), (vr 634), (vi 373), (vi 4), (vr 641), (vi 376), (vi 4), (vr 648), (vi 379), (vi 4), (vr 655), (vi 383), (vi 4), (vr 662), (vi 386), (vi 4), (vr 669), (vi 389), (vi 4), (vr 676), (vi 393), (vi 4), (vr 683), (vi 400), (vi 4), (vr 690), (vi 407), (vi 4), (vr 698), (vi 422), (vi 4), (vr 705), (vi 431), (vi 4), (vr 712), (vi 434), (vi 4), (vr 719), (vi 446), (vi 4), (vr 726), (vi 450), (vi 4), (vr 733), (vi 453), (vi 4), (vr 740), (vi 458), (vi 4), (vr 747), (vi 466), (vi 4), (vr 754), (vi 477), (vi 4), (vr 761)])
noncomputable def o584 (P : Params) : Obj := cO [(vs "Sender" 987), (vs "Sender" 988), (vs "/claim/cut.py" 989), (vi 337), (vi 0), (vi 0), (vi 0), (vi 0), (vr 582), (.bool false), (vi 181), (vr 583), vn, vn, vn, vn, (vi 990), (vi 337), (vs "/claim/cut.py" 991)]
noncomputable def o585 (P : Params) : Obj := (⟨(vt "frame"), none, .plain, #[some (vr 584), some (vr 3), some (vr 581), none, some (vs "thinstack.sender" 922), none, some (vr 0)]⟩ : Obj)
noncomputable def o586 (P : Params) : Obj := tu []
noncomputable def o587 (P : Params) : Obj := ob vn (fl [])
noncomputable def o588 (P : Params) : Obj := tu [(vs "self" 1000), (vs "iss" 1001), (vs "ring" 1002), (vs "mss" 1003), (vs "room" 1004)]
noncomputable def o589 (P : Params) : Obj := tu []
noncomputable def o590 (P : Params) : Obj := ob vn (fO (cS 55 0) "Sender.__init__" 0 vn vn vn vn vn)
noncomputable def o591 (P : Params) : Obj := cO [(vs "__init__" 997), (vs "Sender.__init__" 998), (vs "/claim/cut.py" 999), (vi 339), (vi 5), (vi 0), (vi 0), (vi 3), (vr 586), (.bool true), (vi 181), (vr 587), vn, (vr 588), (vr 589), (vr 590), (vi 1005), (vi 339), (vs "/claim/cut.py" 1006)]
noncomputable def o592 (P : Params) : Obj := ob (vt "function") (fO (cS 55 0) "Sender.__init__" 3 vn vn vn (vs "thinstack.sender" 922) (vr 591))
noncomputable def o593 (P : Params) : Obj := tu []
noncomputable def o594 (P : Params) : Obj := ob vn (fl [])
noncomputable def o595 (P : Params) : Obj := tu [(vs "self" 1011)]
noncomputable def o596 (P : Params) : Obj := tu []
noncomputable def o597 (P : Params) : Obj := ob vn (fO (cS 55 1) "Sender.window" 0 vn vn vn vn vn)
noncomputable def o598 (P : Params) : Obj := cO [(vs "window" 1008), (vs "Sender.window" 1009), (vs "/claim/cut.py" 1010), (vi 352), (vi 1), (vi 0), (vi 0), (vi 3), (vr 593), (.bool true), (vi 181), (vr 594), vn, (vr 595), (vr 596), (vr 597), (vi 1012), (vi 352), (vs "/claim/cut.py" 1013)]
noncomputable def o599 (P : Params) : Obj := ob (vt "function") (fO (cS 55 1) "Sender.window" 3 vn vn vn (vs "thinstack.sender" 922) (vr 598))
noncomputable def o600 (P : Params) : Obj := ob (vt "property") (fl [(vr 599), vn, vn, vn, (vs "window" 1015), (.bool false)])
noncomputable def o601 (P : Params) : Obj := tu []
noncomputable def o602 (P : Params) : Obj := ob vn (fl [])
noncomputable def o603 (P : Params) : Obj := tu [(vs "self" 1019), (vs "seq" 1020), (vs "ack" 1021), (vs "window" 1022)]
noncomputable def o604 (P : Params) : Obj := tu []
noncomputable def o605 (P : Params) : Obj := ob vn (fO (cS 55 2) "Sender.take_window" 0 vn vn vn vn vn)
noncomputable def o606 (P : Params) : Obj := cO [(vs "take_window" 1016), (vs "Sender.take_window" 1017), (vs "/claim/cut.py" 1018), (vi 356), (vi 4), (vi 0), (vi 0), (vi 3), (vr 601), (.bool true), (vi 181), (vr 602), vn, (vr 603), (vr 604), (vr 605), (vi 1023), (vi 356), (vs "/claim/cut.py" 1024)]
noncomputable def o607 (P : Params) : Obj := ob (vt "function") (fO (cS 55 2) "Sender.take_window" 3 vn vn vn (vs "thinstack.sender" 922) (vr 606))
noncomputable def o608 (P : Params) : Obj := tu []
noncomputable def o609 (P : Params) : Obj := ob vn (fl [])
noncomputable def o610 (P : Params) : Obj := tu [(vs "self" 1029), (vs "octets" 1030)]
noncomputable def o611 (P : Params) : Obj := tu []
noncomputable def o612 (P : Params) : Obj := ob vn (fO (cS 55 3) "Sender.put" 0 vn vn vn vn vn)
noncomputable def o613 (P : Params) : Obj := cO [(vs "put" 1026), (vs "Sender.put" 1027), (vs "/claim/cut.py" 1028), (vi 359), (vi 2), (vi 0), (vi 0), (vi 3), (vr 608), (.bool true), (vi 181), (vr 609), vn, (vr 610), (vr 611), (vr 612), (vi 1031), (vi 359), (vs "/claim/cut.py" 1032)]
noncomputable def o614 (P : Params) : Obj := ob (vt "function") (fO (cS 55 3) "Sender.put" 3 vn vn vn (vs "thinstack.sender" 922) (vr 613))
noncomputable def o615 (P : Params) : Obj := tu []
noncomputable def o616 (P : Params) : Obj := ob vn (fl [])
noncomputable def o617 (P : Params) : Obj := tu [(vs "self" 1037)]
noncomputable def o618 (P : Params) : Obj := tu []
noncomputable def o619 (P : Params) : Obj := ob vn (fO (cS 55 4) "Sender.ask_fin" 0 vn vn vn vn vn)
noncomputable def o620 (P : Params) : Obj := cO [(vs "ask_fin" 1034), (vs "Sender.ask_fin" 1035), (vs "/claim/cut.py" 1036), (vi 364), (vi 1), (vi 0), (vi 0), (vi 3), (vr 615), (.bool true), (vi 181), (vr 616), vn, (vr 617), (vr 618), (vr 619), (vi 1038), (vi 364), (vs "/claim/cut.py" 1039)]
noncomputable def o621 (P : Params) : Obj := ob (vt "function") (fO (cS 55 4) "Sender.ask_fin" 3 vn vn vn (vs "thinstack.sender" 922) (vr 620))
noncomputable def o622 (P : Params) : Obj := tu []
noncomputable def o623 (P : Params) : Obj := ob vn (fl [])
noncomputable def o624 (P : Params) : Obj := tu [(vs "self" 1044)]
noncomputable def o625 (P : Params) : Obj := tu []
noncomputable def o626 (P : Params) : Obj := ob vn (fO (cS 55 5) "Sender.flight" 0 vn vn vn vn vn)
noncomputable def o627 (P : Params) : Obj := cO [(vs "flight" 1041), (vs "Sender.flight" 1042), (vs "/claim/cut.py" 1043), (vi 367), (vi 1), (vi 0), (vi 0), (vi 3), (vr 622), (.bool true), (vi 181), (vr 623), vn, (vr 624), (vr 625), (vr 626), (vi 1045), (vi 367), (vs "/claim/cut.py" 1046)]
noncomputable def o628 (P : Params) : Obj := ob (vt "function") (fO (cS 55 5) "Sender.flight" 3 vn vn vn (vs "thinstack.sender" 922) (vr 627))
noncomputable def o629 (P : Params) : Obj := tu []
noncomputable def o630 (P : Params) : Obj := ob vn (fl [])
noncomputable def o631 (P : Params) : Obj := tu [(vs "self" 1051), (vs "congestion_window" 1052)]
noncomputable def o632 (P : Params) : Obj := tu []
noncomputable def o633 (P : Params) : Obj := ob vn (fO (cS 55 6) "Sender.usable" 0 vn vn vn vn vn)
noncomputable def o634 (P : Params) : Obj := cO [(vs "usable" 1048), (vs "Sender.usable" 1049), (vs "/claim/cut.py" 1050), (vi 370), (vi 2), (vi 0), (vi 0), (vi 3), (vr 629), (.bool true), (vi 181), (vr 630), vn, (vr 631), (vr 632), (vr 633), (vi 1053), (vi 370), (vs "/claim/cut.py" 1054)]
noncomputable def o635 (P : Params) : Obj := ob (vt "function") (fO (cS 55 6) "Sender.usable" 3 vn vn vn (vs "thinstack.sender" 922) (vr 634))
noncomputable def o636 (P : Params) : Obj := tu []
noncomputable def o637 (P : Params) : Obj := ob vn (fl [])
noncomputable def o638 (P : Params) : Obj := tu [(vs "self" 1059)]
noncomputable def o639 (P : Params) : Obj := tu []
noncomputable def o640 (P : Params) : Obj := ob vn (fO (cS 55 7) "Sender.data_sent" 0 vn vn vn vn vn)
noncomputable def o641 (P : Params) : Obj := cO [(vs "data_sent" 1056), (vs "Sender.data_sent" 1057), (vs "/claim/cut.py" 1058), (vi 373), (vi 1), (vi 0), (vi 0), (vi 3), (vr 636), (.bool true), (vi 181), (vr 637), vn, (vr 638), (vr 639), (vr 640), (vi 1060), (vi 373), (vs "/claim/cut.py" 1061)]
noncomputable def o642 (P : Params) : Obj := ob (vt "function") (fO (cS 55 7) "Sender.data_sent" 3 vn vn vn (vs "thinstack.sender" 922) (vr 641))
noncomputable def o643 (P : Params) : Obj := tu []
noncomputable def o644 (P : Params) : Obj := ob vn (fl [])
noncomputable def o645 (P : Params) : Obj := tu [(vs "self" 1066)]
noncomputable def o646 (P : Params) : Obj := tu []
noncomputable def o647 (P : Params) : Obj := ob vn (fO (cS 55 8) "Sender.unsent" 0 vn vn vn vn vn)
noncomputable def o648 (P : Params) : Obj := cO [(vs "unsent" 1063), (vs "Sender.unsent" 1064), (vs "/claim/cut.py" 1065), (vi 376), (vi 1), (vi 0), (vi 0), (vi 3), (vr 643), (.bool true), (vi 181), (vr 644), vn, (vr 645), (vr 646), (vr 647), (vi 1067), (vi 376), (vs "/claim/cut.py" 1068)]
noncomputable def o649 (P : Params) : Obj := ob (vt "function") (fO (cS 55 8) "Sender.unsent" 3 vn vn vn (vs "thinstack.sender" 922) (vr 648))
noncomputable def o650 (P : Params) : Obj := tu []
noncomputable def o651 (P : Params) : Obj := ob vn (fl [])
noncomputable def o652 (P : Params) : Obj := tu [(vs "self" 1073), (vs "room" 1074)]
noncomputable def o653 (P : Params) : Obj := tu []
noncomputable def o654 (P : Params) : Obj := ob vn (fO (cS 55 9) "Sender.is_fin_due" 0 vn vn vn vn vn)
noncomputable def o655 (P : Params) : Obj := cO [(vs "is_fin_due" 1070), (vs "Sender.is_fin_due" 1071), (vs "/claim/cut.py" 1072), (vi 379), (vi 1), (vi 0), (vi 0), (vi 3), (vr 650), (.bool true), (vi 181), (vr 651), vn, (vr 652), (vr 653), (vr 654), (vi 1075), (vi 379), (vs "/claim/cut.py" 1076)]
noncomputable def o656 (P : Params) : Obj := ob (vt "function") (fO (cS 55 9) "Sender.is_fin_due" 3 vn vn vn (vs "thinstack.sender" 922) (vr 655))
noncomputable def o657 (P : Params) : Obj := tu []
noncomputable def o658 (P : Params) : Obj := ob vn (fl [])
noncomputable def o659 (P : Params) : Obj := tu [(vs "self" 1081)]
noncomputable def o660 (P : Params) : Obj := tu []
noncomputable def o661 (P : Params) : Obj := ob vn (fO (cS 55 10) "Sender.is_fin_acked" 0 vn vn vn vn vn)
noncomputable def o662 (P : Params) : Obj := cO [(vs "is_fin_acked" 1078), (vs "Sender.is_fin_acked" 1079), (vs "/claim/cut.py" 1080), (vi 383), (vi 1), (vi 0), (vi 0), (vi 3), (vr 657), (.bool true), (vi 181), (vr 658), vn, (vr 659), (vr 660), (vr 661), (vi 1082), (vi 383), (vs "/claim/cut.py" 1083)]
noncomputable def o663 (P : Params) : Obj := ob (vt "function") (fO (cS 55 10) "Sender.is_fin_acked" 3 vn vn vn (vs "thinstack.sender" 922) (vr 662))
noncomputable def o664 (P : Params) : Obj := tu []
noncomputable def o665 (P : Params) : Obj := ob vn (fl [])
noncomputable def o666 (P : Params) : Obj := tu [(vs "self" 1088)]
noncomputable def o667 (P : Params) : Obj := tu []
noncomputable def o668 (P : Params) : Obj := ob vn (fO (cS 55 11) "Sender.is_all_acked" 0 vn vn vn vn vn)
noncomputable def o669 (P : Params) : Obj := cO [(vs "is_all_acked" 1085), (vs "Sender.is_all_acked" 1086), (vs "/claim/cut.py" 1087), (vi 386), (vi 1), (vi 0), (vi 0), (vi 3), (vr 664), (.bool true), (vi 181), (vr 665), vn, (vr 666), (vr 667), (vr 668), (vi 1089), (vi 386), (vs "/claim/cut.py" 1090)]
noncomputable def o670 (P : Params) : Obj := ob (vt "function") (fO (cS 55 11) "Sender.is_all_acked" 3 vn vn vn (vs "thinstack.sender" 922) (vr 669))
noncomputable def o671 (P : Params) : Obj := tu []
noncomputable def o672 (P : Params) : Obj := ob vn (fl [])
noncomputable def o673 (P : Params) : Obj := tu [(vs "self" 1095), (vs "many" 1096)]
noncomputable def o674 (P : Params) : Obj := tu []
noncomputable def o675 (P : Params) : Obj := ob vn (fO (cS 55 12) "Sender.go_on" 0 vn vn vn vn vn)
noncomputable def o676 (P : Params) : Obj := cO [(vs "go_on" 1092), (vs "Sender.go_on" 1093), (vs "/claim/cut.py" 1094), (vi 389), (vi 2), (vi 0), (vi 0), (vi 3), (vr 671), (.bool true), (vi 181), (vr 672), vn, (vr 673), (vr 674), (vr 675), (vi 1097), (vi 389), (vs "/claim/cut.py" 1098)]
noncomputable def o677 (P : Params) : Obj := ob (vt "function") (fO (cS 55 12) "Sender.go_on" 3 vn vn vn (vs "thinstack.sender" 922) (vr 676))
noncomputable def o678 (P : Params) : Obj := tu []
noncomputable def o679 (P : Params) : Obj := ob vn (fl [])
noncomputable def o680 (P : Params) : Obj := tu [(vs "self" 1103)]
noncomputable def o681 (P : Params) : Obj := tu []
noncomputable def o682 (P : Params) : Obj := ob vn (fO (cS 55 13) "Sender.start" 0 vn vn vn vn vn)
noncomputable def o683 (P : Params) : Obj := cO [(vs "start" 1100), (vs "Sender.start" 1101), (vs "/claim/cut.py" 1102), (vi 393), (vi 1), (vi 0), (vi 0), (vi 3), (vr 678), (.bool true), (vi 181), (vr 679), vn, (vr 680), (vr 681), (vr 682), (vi 1104), (vi 393), (vs "/claim/cut.py" 1105)]
noncomputable def o684 (P : Params) : Obj := ob (vt "function") (fO (cS 55 13) "Sender.start" 3 vn vn vn (vs "thinstack.sender" 922) (vr 683))
noncomputable def o685 (P : Params) : Obj := tu []
noncomputable def o686 (P : Params) : Obj := ob vn (fl [])
noncomputable def o687 (P : Params) : Obj := tu [(vs "self" 1110), (vs "many" 1111), (vs "is_nagle" 1112)]
noncomputable def o688 (P : Params) : Obj := tu []
noncomputable def o689 (P : Params) : Obj := ob vn (fO (cS 55 14) "Sender.may_go" 0 vn vn vn vn vn)
noncomputable def o690 (P : Params) : Obj := cO [(vs "may_go" 1107), (vs "Sender.may_go" 1108), (vs "/claim/cut.py" 1109), (vi 400), (vi 3), (vi 0), (vi 0), (vi 3), (vr 685), (.bool true), (vi 181), (vr 686), vn, (vr 687), (vr 688), (vr 689), (vi 1113), (vi 400), (vs "/claim/cut.py" 1114)]
noncomputable def o691 (P : Params) : Obj := ob (vt "function") (fO (cS 55 14) "Sender.may_go" 3 vn vn vn (vs "thinstack.sender" 922) (vr 690))
noncomputable def o692 (P : Params) : Obj := tu [(.bool true)]
noncomputable def o693 (P : Params) : Obj := tu []
noncomputable def o694 (P : Params) : Obj := ob vn (fl [])
noncomputable def o695 (P : Params) : Obj := tu [(vs "self" 1119), (vs "congestion_window" 1120), (vs "is_nagle" 1121), (vs "found" 1122), (vs "many" 1123)]
noncomputable def o696 (P : Params) : Obj := tu []
noncomputable def o697 (P : Params) : Obj := ob vn (fO (cS 55 15) "Sender.pieces" 0 vn vn vn vn vn)
noncomputable def o698 (P : Params) : Obj := cO [(vs "pieces" 1116), (vs "Sender.pieces" 1117), (vs "/claim/cut.py" 1118), (vi 407), (vi 3), (vi 0), (vi 0), (vi 3), (vr 693), (.bool true), (vi 181), (vr 694), vn, (vr 695), (vr 696), (vr 697), (vi 1124), (vi 407), (vs "/claim/cut.py" 1125)]
noncomputable def o699 (P : Params) : Obj := ob (vt "function") (fO (cS 55 15) "Sender.pieces" 3 (vr 692) vn vn (vs "thinstack.sender" 922) (vr 698))
noncomputable def o700 (P : Params) : Obj := tu []
noncomputable def o701 (P : Params) : Obj := ob vn (fl [])
noncomputable def o702 (P : Params) : Obj := tu [(vs "self" 1130), (vs "many" 1131), (vs "congestion_window" 1132), (vs "seq" 1133), (vs "octets" 1134), (vs "is_last" 1135), (vs "has_fin" 1136)]
noncomputable def o703 (P : Params) : Obj := tu []
noncomputable def o704 (P : Params) : Obj := ob vn (fO (cS 55 16) "Sender.piece_of" 0 vn vn vn vn vn)
noncomputable def o705 (P : Params) : Obj := cO [(vs "piece_of" 1127), (vs "Sender.piece_of" 1128), (vs "/claim/cut.py" 1129), (vi 422), (vi 3), (vi 0), (vi 0), (vi 3), (vr 700), (.bool true), (vi 181), (vr 701), vn, (vr 702), (vr 703), (vr 704), (vi 1137), (vi 422), (vs "/claim/cut.py" 1138)]
noncomputable def o706 (P : Params) : Obj := ob (vt "function") (fO (cS 55 16) "Sender.piece_of" 3 vn vn vn (vs "thinstack.sender" 922) (vr 705))
noncomputable def o707 (P : Params) : Obj := tu []
noncomputable def o708 (P : Params) : Obj := ob vn (fl [])
noncomputable def o709 (P : Params) : Obj := tu [(vs "self" 1143)]
noncomputable def o710 (P : Params) : Obj := tu []
noncomputable def o711 (P : Params) : Obj := ob vn (fO (cS 55 17) "Sender.ever_sent" 0 vn vn vn vn vn)
noncomputable def o712 (P : Params) : Obj := cO [(vs "ever_sent" 1140), (vs "Sender.ever_sent" 1141), (vs "/claim/cut.py" 1142), (vi 431), (vi 1), (vi 0), (vi 0), (vi 3), (vr 707), (.bool true), (vi 181), (vr 708), vn, (vr 709), (vr 710), (vr 711), (vi 1144), (vi 431), (vs "/claim/cut.py" 1145)]
noncomputable def o713 (P : Params) : Obj := ob (vt "function") (fO (cS 55 17) "Sender.ever_sent" 3 vn vn vn (vs "thinstack.sender" 922) (vr 712))
noncomputable def o714 (P : Params) : Obj := tu []
noncomputable def o715 (P : Params) : Obj := ob vn (fl [])
noncomputable def o716 (P : Params) : Obj := tu [(vs "self" 1150), (vs "many" 1151), (vs "size" 1152), (vs "has_fin" 1153)]
noncomputable def o717 (P : Params) : Obj := tu []
noncomputable def o718 (P : Params) : Obj := ob vn (fO (cS 55 18) "Sender.first_piece" 0 vn vn vn vn vn)
noncomputable def o719 (P : Params) : Obj := cO [(vs "first_piece" 1147), (vs "Sender.first_piece" 1148), (vs "/claim/cut.py" 1149), (vi 434), (vi 1), (vi 0), (vi 0), (vi 3), (vr 714), (.bool true), (vi 181), (vr 715), vn, (vr 716), (vr 717), (vr 718), (vi 1154), (vi 434), (vs "/claim/cut.py" 1155)]
noncomputable def o720 (P : Params) : Obj := ob (vt "function") (fO (cS 55 18) "Sender.first_piece" 3 vn vn vn (vs "thinstack.sender" 922) (vr 719))
noncomputable def o721 (P : Params) : Obj := tu []
noncomputable def o722 (P : Params) : Obj := ob vn (fl [])
noncomputable def o723 (P : Params) : Obj := tu [(vs "self" 1160), (vs "many" 1161)]
noncomputable def o724 (P : Params) : Obj := tu []
noncomputable def o725 (P : Params) : Obj := ob vn (fO (cS 55 19) "Sender.reach" 0 vn vn vn vn vn)
noncomputable def o726 (P : Params) : Obj := cO [(vs "reach" 1157), (vs "Sender.reach" 1158), (vs "/claim/cut.py" 1159), (vi 446), (vi 2), (vi 0), (vi 0), (vi 3), (vr 721), (.bool true), (vi 181), (vr 722), vn, (vr 723), (vr 724), (vr 725), (vi 1162), (vi 446), (vs "/claim/cut.py" 1163)]
noncomputable def o727 (P : Params) : Obj := ob (vt "function") (fO (cS 55 19) "Sender.reach" 3 vn vn vn (vs "thinstack.sender" 922) (vr 726))
noncomputable def o728 (P : Params) : Obj := tu []
noncomputable def o729 (P : Params) : Obj := ob vn (fl [])
noncomputable def o730 (P : Params) : Obj := tu [(vs "self" 1168), (vs "seq" 1169)]
noncomputable def o731 (P : Params) : Obj := tu []
noncomputable def o732 (P : Params) : Obj := ob vn (fO (cS 55 20) "Sender.back_to" 0 vn vn vn vn vn)
noncomputable def o733 (P : Params) : Obj := cO [(vs "back_to" 1165), (vs "Sender.back_to" 1166), (vs "/claim/cut.py" 1167), (vi 450), (vi 2), (vi 0), (vi 0), (vi 3), (vr 728), (.bool true), (vi 181), (vr 729), vn, (vr 730), (vr 731), (vr 732), (vi 1170), (vi 450), (vs "/claim/cut.py" 1171)]
noncomputable def o734 (P : Params) : Obj := ob (vt "function") (fO (cS 55 20) "Sender.back_to" 3 vn vn vn (vs "thinstack.sender" 922) (vr 733))
noncomputable def o735 (P : Params) : Obj := tu []
noncomputable def o736 (P : Params) : Obj := ob vn (fl [])
noncomputable def o737 (P : Params) : Obj := tu [(vs "self" 1176)]
noncomputable def o738 (P : Params) : Obj := tu []
noncomputable def o739 (P : Params) : Obj := ob vn (fO (cS 55 21) "Sender.is_idle_with_more" 0 vn vn vn vn vn)
noncomputable def o740 (P : Params) : Obj := cO [(vs "is_idle_with_more" 1173), (vs "Sender.is_idle_with_more" 1174), (vs "/claim/cut.py" 1175), (vi 453), (vi 1), (vi 0), (vi 0), (vi 3), (vr 735), (.bool true), (vi 181), (vr 736), vn, (vr 737), (vr 738), (vr 739), (vi 1177), (vi 453), (vs "/claim/cut.py" 1178)]
noncomputable def o741 (P : Params) : Obj := ob (vt "function") (fO (cS 55 21) "Sender.is_idle_with_more" 3 vn vn vn (vs "thinstack.sender" 922) (vr 740))
noncomputable def o742 (P : Params) : Obj := tu []
noncomputable def o743 (P : Params) : Obj := ob vn (fl [])
noncomputable def o744 (P : Params) : Obj := tu [(vs "self" 1183), (vs "many" 1184)]
noncomputable def o745 (P : Params) : Obj := tu []
noncomputable def o746 (P : Params) : Obj := ob vn (fO (cS 55 22) "Sender.needs_probe" 0 vn vn vn vn vn)
noncomputable def o747 (P : Params) : Obj := cO [(vs "needs_probe" 1180), (vs "Sender.needs_probe" 1181), (vs "/claim/cut.py" 1182), (vi 458), (vi 1), (vi 0), (vi 0), (vi 3), (vr 742), (.bool true), (vi 181), (vr 743), vn, (vr 744), (vr 745), (vr 746), (vi 1185), (vi 458), (vs "/claim/cut.py" 1186)]
noncomputable def o748 (P : Params) : Obj := ob (vt "function") (fO (cS 55 22) "Sender.needs_probe" 3 vn vn vn (vs "thinstack.sender" 922) (vr 747))
noncomputable def o749 (P : Params) : Obj := tu []
noncomputable def o750 (P : Params) : Obj := ob vn (fl [])
noncomputable def o751 (P : Params) : Obj := tu [(vs "self" 1191)]
noncomputable def o752 (P : Params) : Obj := tu []
noncomputable def o753 (P : Params) : Obj := ob vn (fO (cS 55 23) "Sender.probe" 0 vn vn vn vn vn)
noncomputable def o754 (P : Params) : Obj := cO [(vs "probe" 1188), (vs "Sender.probe" 1189), (vs "/claim/cut.py" 1190), (vi 466), (vi 1), (vi 0), (vi 0), (vi 3), (vr 749), (.bool true), (vi 181), (vr 750), vn, (vr 751), (vr 752), (vr 753), (vi 1192), (vi 466), (vs "/claim/cut.py" 1193)]
noncomputable def o755 (P : Params) : Obj := ob (vt "function") (fO (cS 55 23) "Sender.probe" 3 vn vn vn (vs "thinstack.sender" 922) (vr 754))
noncomputable def o756 (P : Params) : Obj := tu []
noncomputable def o757 (P : Params) : Obj := ob vn (fl [])
noncomputable def o758 (P : Params) : Obj := tu [(vs "self" 1198), (vs "ack" 1199), (vs "many" 1200), (vs "ahead" 1201), (vs "is_syn" 1202), (vs "octets" 1203)]
noncomputable def o759 (P : Params) : Obj := tu []
noncomputable def o760 (P : Params) : Obj := ob vn (fO (cS 55 24) "Sender.acked" 0 vn vn vn vn vn)
noncomputable def o761 (P : Params) : Obj := cO [(vs "acked" 1195), (vs "Sender.acked" 1196), (vs "/claim/cut.py" 1197), (vi 477), (vi 2), (vi 0), (vi 0), (vi 3), (vr 756), (.bool true), (vi 181), (vr 757), vn, (vr 758), (vr 759), (vr 760), (vi 1204), (vi 477), (vs "/claim/cut.py" 1205)]
noncomputable def o762 (P : Params) : Obj := ob (vt "function") (fO (cS 55 24) "Sender.acked" 3 vn vn vn (vs "thinstack.sender" 922) (vr 761))
noncomputable def o763 (P : Params) : Obj := tu [(vs "fin_asked" 1207), (vs "fin_sent" 1208), (vs "greatest" 1209), (vs "iss" 1210), (vs "mss" 1211), (vs "next" 1212), (vs "peer" 1213), (vs "queue" 1214), (vs "ring" 1215), (vs "syn_pending" 1216), (vs "una" 1217)]
noncomputable def o764 (P : Params) : Obj := ob (vt "dict") (dc [(en P "__module__" 992 (vs "thinstack.sender" 922)), (en P "__firstlineno__" 996 (.int 337 995)), (en P "__init__" 1007 (vr 592)), (en P "window" 1015 (vr 600)), (en P "take_window" 1025 (vr 607)), (en P "put" 1033 (vr 614)), (en P "ask_fin" 1040 (vr 621)), (en P "flight" 1047 (vr 628)), (en P "usable" 1055 (vr 635)), (en P "data_sent" 1062 (vr 642)), (en P "unsent" 1069 (vr 649)), (en P "is_fin_due" 1077 (vr 656)), (en P "is_fin_acked" 1084 (vr 663)), (en P "is_all_acked" 1091 (vr 670)), (en P "go_on" 1099 (vr 677)), (en P "start" 1106 (vr 684)), (en P "may_go" 1115 (vr 691)), (en P "pieces" 1126 (vr 699)), (en P "piece_of" 1139 (vr 706)), (en P "ever_sent" 1146 (vr 713)), (en P "first_piece" 1156 (vr 720)), (en P "reach" 1164 (vr 727)), (en P "back_to" 1172 (vr 734)), (en P "is_idle_with_more" 1179 (vr 741)), (en P "needs_probe" 1187 (vr 748)), (en P "probe" 1194 (vr 755)), (en P "acked" 1206 (vr 762)), (en P "__static_attributes__" 1218 (vr 763)), (en P "__dict__" 1220 (vr 766)), (en P "__weakref__" 1222 (vr 767)), (en P "__doc__" 1223 vn)] 4)
noncomputable def o765 (P : Params) : Obj := (⟨(vt "type"), none, (.cls { name := ss "Sender", bases := [(vt "object")], mro := [(vr 765), (vt "object")], ns := 764, qualname := ss "Sender", hasDict := true, slotNames := [], subclasses := [], abstract := false, collection := none, hasDel := false }), #[none, none, some (vs "Sender" 985), some (vs "Sender" 993), some (vb "object.__new__"), some (.bool true)]⟩ : Obj)
noncomputable def o766 (P : Params) : Obj := ob (vt "getset_descriptor") (fl [(vs "__dict__" 1219), (vr 765), (vb "function.__dict__"), (vb "function.__dict__#set")])
noncomputable def o767 (P : Params) : Obj := ob (vt "getset_descriptor") (fl [(vs "__weakref__" 1221), (vr 765), (vb "ExceptionGroup.__weakref__"), vn])
noncomputable def o768 (P : Params) : Obj := ob (vt "super") (fl [(vr 765), (vr 765), (vr 765)])
noncomputable def o769 (P : Params) : Obj := ob (vt "builtin_function_or_method") (fl [(vb "object.__init_subclass__"), (vr 765)])
noncomputable def o770 (P : Params) : Obj := tu []
noncomputable def o771 (P : Params) : Obj := ob (vt "builtin_function_or_method") (fl [(vb "type.__prepare__"), (vt "type")])
noncomputable def o772 (P : Params) : Obj := ob (vt "dict") (dc [(en P "__module__" 1235 (vs "thinstack.wheel" 1226)), (en P "__qualname__" 1237 (vs "Wheel" 1236)), (en P "__firstlineno__" 1239 (.int 491 1238)), (en P "__init__" 1246 (vr 782)), (en P "put" 1255 (vr 789)), (en P "list_of" 1263 (vr 796)), (en P "cancel" 1274 (vr 803)), (en P "time_of" 1282 (vr 810)), (en P "next_time" 1289 (vr 817)), (en P "due" 1295 (vr 822)), (en P "keys_until" 1305 (vr 829)), (en P "__static_attributes__" 1312 (vr 830))] 12)
noncomputable def o773 (P : Params) : Obj := tu []
noncomputable def o774 (P : Params) : Obj := ob vn (fl [(vi 493), (vi 4), (vr 781), (vi 501), (vi 4), (vr 788), (vi 507), (vi 4), (vr 795), (vi 512), (vi 4), (vr 802), (vi 519), (vi 4), (vr 809), (vi 522), (vi 4), (vr 816), (vi 525), (vi 4), (vr 821), (vi 537), (vi 4), (vr 828)])
noncomputable def o775 (P : Params) : Obj := cO [(vs "Wheel" 1230), (vs "Wheel" 1231), (vs "/claim/cut.py" 1232), (vi 491), (vi 0), (vi 0), (vi 0), (vi 0), (vr 773), (.bool false), (vi 181), (vr 774), vn, vn, vn, vn, (vi 1233), (vi 491), (vs "/claim/cut.py" 1234)]
noncomputable def o776 (P : Params) : Obj := (⟨(vt "frame"), none, .plain, #[some (vr 775), some (vr 3), some (vr 772), none, some (vs "thinstack.wheel" 1226), none, some (vr 0)]⟩ : Obj)
noncomputable def o777 (P : Params) : Obj := tu [(.int 16 1240)]
noncomputable def o778 (P : Params) : Obj := tu []
noncomputable def o779 (P : Params) : Obj := ob vn (fl [])
noncomputable def o780 (P : Params) : Obj := ob vn (fO (cS 57 0) "Wheel.__init__" 0 vn vn vn vn vn)
noncomputable def o781 (P : Params) : Obj := cO [(vs "__init__" 1241), (vs "Wheel.__init__" 1242), (vs "/claim/cut.py" 1243), (vi 493), (vi 2), (vi 0), (vi 0), (vi 3), (vr 778), (.bool true), (vi 181), (vr 779), vn, vn, vn, (vr 780), (vi 1244), (vi 493), (vs "/claim/cut.py" 1245)]
noncomputable def o782 (P : Params) : Obj := ob (vt "function") (fO (cS 57 0) "Wheel.__init__" 3 (vr 777) vn vn (vs "thinstack.wheel" 1226) (vr 781))
noncomputable def o783 (P : Params) : Obj := tu []
noncomputable def o784 (P : Params) : Obj := ob vn (fl [])
noncomputable def o785 (P : Params) : Obj := tu [(vs "self" 1250), (vs "key" 1251), (vs "time" 1252)]
noncomputable def o786 (P : Params) : Obj := tu []
noncomputable def o787 (P : Params) : Obj := ob vn (fO (cS 57 1) "Wheel.put" 0 vn vn vn vn vn)
noncomputable def o788 (P : Params) : Obj := cO [(vs "put" 1247), (vs "Wheel.put" 1248), (vs "/claim/cut.py" 1249), (vi 501), (vi 3), (vi 0), (vi 0), (vi 3), (vr 783), (.bool true), (vi 181), (vr 784), vn, (vr 785), (vr 786), (vr 787), (vi 1253), (vi 501), (vs "/claim/cut.py" 1254)]
noncomputable def o789 (P : Params) : Obj := ob (vt "function") (fO (cS 57 1) "Wheel.put" 3 vn vn vn (vs "thinstack.wheel" 1226) (vr 788))
noncomputable def o790 (P : Params) : Obj := tu []
noncomputable def o791 (P : Params) : Obj := ob vn (fl [])
noncomputable def o792 (P : Params) : Obj := tu [(vs "self" 1259), (vs "time" 1260)]
noncomputable def o793 (P : Params) : Obj := tu []
noncomputable def o794 (P : Params) : Obj := ob vn (fO (cS 57 2) "Wheel.list_of" 0 vn vn vn vn vn)
noncomputable def o795 (P : Params) : Obj := cO [(vs "list_of" 1256), (vs "Wheel.list_of" 1257), (vs "/claim/cut.py" 1258), (vi 507), (vi 2), (vi 0), (vi 0), (vi 3), (vr 790), (.bool true), (vi 181), (vr 791), vn, (vr 792), (vr 793), (vr 794), (vi 1261), (vi 507), (vs "/claim/cut.py" 1262)]
noncomputable def o796 (P : Params) : Obj := ob (vt "function") (fO (cS 57 2) "Wheel.list_of" 3 vn vn vn (vs "thinstack.wheel" 1226) (vr 795))
noncomputable def o797 (P : Params) : Obj := tu []
noncomputable def o798 (P : Params) : Obj := ob vn (fl [])
noncomputable def o799 (P : Params) : Obj := tu [(vs "self" 1267), (vs "key" 1268), (vs "time" 1269), (vs "order" 1270), (vs "keys" 1271)]
noncomputable def o800 (P : Params) : Obj := tu []
noncomputable def o801 (P : Params) : Obj := ob vn (fO (cS 57 3) "Wheel.cancel" 0 vn vn vn vn vn)
noncomputable def o802 (P : Params) : Obj := cO [(vs "cancel" 1264), (vs "Wheel.cancel" 1265), (vs "/claim/cut.py" 1266), (vi 512), (vi 2), (vi 0), (vi 0), (vi 3), (vr 797), (.bool true), (vi 181), (vr 798), vn, (vr 799), (vr 800), (vr 801), (vi 1272), (vi 512), (vs "/claim/cut.py" 1273)]
noncomputable def o803 (P : Params) : Obj := ob (vt "function") (fO (cS 57 3) "Wheel.cancel" 3 vn vn vn (vs "thinstack.wheel" 1226) (vr 802))
noncomputable def o804 (P : Params) : Obj := tu []
noncomputable def o805 (P : Params) : Obj := ob vn (fl [])
noncomputable def o806 (P : Params) : Obj := tu [(vs "self" 1278), (vs "key" 1279)]
noncomputable def o807 (P : Params) : Obj := tu []
noncomputable def o808 (P : Params) : Obj := ob vn (fO (cS 57 4) "Wheel.time_of" 0 vn vn vn vn vn)
noncomputable def o809 (P : Params) : Obj := cO [(vs "time_of" 1275), (vs "Wheel.time_of" 1276), (vs "/claim/cut.py" 1277), (vi 519), (vi 2), (vi 0), (vi 0), (vi 3), (vr 804), (.bool true), (vi 181), (vr 805), vn, (vr 806), (vr 807), (vr 808), (vi 1280), (vi 519), (vs "/claim/cut.py" 1281)]
noncomputable def o810 (P : Params) : Obj := ob (vt "function") (fO (cS 57 4) "Wheel.time_of" 3 vn vn vn (vs "thinstack.wheel" 1226) (vr 809))
noncomputable def o811 (P : Params) : Obj := tu []
noncomputable def o812 (P : Params) : Obj := ob vn (fl [])
noncomputable def o813 (P : Params) : Obj := tu [(vs "self" 1286)]
noncomputable def o814 (P : Params) : Obj := tu []
noncomputable def o815 (P : Params) : Obj := ob vn (fO (cS 57 5) "Wheel.next_time" 0 vn vn vn vn vn)
noncomputable def o816 (P : Params) : Obj := cO [(vs "next_time" 1283), (vs "Wheel.next_time" 1284), (vs "/claim/cut.py" 1285), (vi 522), (vi 1), (vi 0), (vi 0), (vi 3), (vr 811), (.bool true), (vi 181), (vr 812), vn, (vr 813), (vr 814), (vr 815), (vi 1287), (vi 522), (vs "/claim/cut.py" 1288)]
noncomputable def o817 (P : Params) : Obj := ob (vt "function") (fO (cS 57 5) "Wheel.next_time" 3 vn vn vn (vs "thinstack.wheel" 1226) (vr 816))
noncomputable def o818 (P : Params) : Obj := tu []
noncomputable def o819 (P : Params) : Obj := ob vn (fl [])
noncomputable def o820 (P : Params) : Obj := ob vn (fO (cS 57 6) "Wheel.due" 0 vn vn vn vn vn)
noncomputable def o821 (P : Params) : Obj := cO [(vs "due" 1290), (vs "Wheel.due" 1291), (vs "/claim/cut.py" 1292), (vi 525), (vi 2), (vi 0), (vi 0), (vi 3), (vr 818), (.bool true), (vi 181), (vr 819), vn, vn, vn, (vr 820), (vi 1293), (vi 525), (vs "/claim/cut.py" 1294)]
noncomputable def o822 (P : Params) : Obj := ob (vt "function") (fO (cS 57 6) "Wheel.due" 3 vn vn vn (vs "thinstack.wheel" 1226) (vr 821))
noncomputable def o823 (P : Params) : Obj := tu []
noncomputable def o824 (P : Params) : Obj := ob vn (fl [])
noncomputable def o825 (P : Params) : Obj := tu [(vs "self" 1299), (vs "now" 1300), (vs "found" 1301), (vs "time" 1302)]
noncomputable def o826 (P : Params) : Obj := tu []
noncomputable def o827 (P : Params) : Obj := ob vn (fO (cS 57 7) "Wheel.keys_until" 0 vn vn vn vn vn)
noncomputable def o828 (P : Params) : Obj := cO [(vs "keys_until" 1296), (vs "Wheel.keys_until" 1297), (vs "/claim/cut.py" 1298), (vi 537), (vi 2), (vi 0), (vi 0), (vi 3), (vr 823), (.bool true), (vi 181), (vr 824), vn, (vr 825), (vr 826), (vr 827), (vi 1303), (vi 537), (vs "/claim/cut.py" 1304)]
noncomputable def o829 (P : Params) : Obj := ob (vt "function") (fO (cS 57 7) "Wheel.keys_until" 3 vn vn vn (vs "thinstack.wheel" 1226) (vr 828))
noncomputable def o830 (P : Params) : Obj := tu [(vs "entries" 1306), (vs "given" 1307), (vs "late" 1308), (vs "reached" 1309), (vs "size" 1310), (vs "slots" 1311)]
noncomputable def o831 (P : Params) : Obj := ob (vt "dict") (dc [(en P "__module__" 1235 (vs "thinstack.wheel" 1226)), (en P "__firstlineno__" 1239 (.int 491 1238)), (en P "__init__" 1246 (vr 782)), (en P "put" 1255 (vr 789)), (en P "list_of" 1263 (vr 796)), (en P "cancel" 1274 (vr 803)), (en P "time_of" 1282 (vr 810)), (en P "next_time" 1289 (vr 817)), (en P "due" 1295 (vr 822)), (en P "keys_until" 1305 (vr 829)), (en P "__static_attributes__" 1312 (vr 830)), (en P "__dict__" 1314 (vr 833)), (en P "__weakref__" 1316 (vr 834)), (en P "__doc__" 1317 vn)] 4)
noncomputable def o832 (P : Params) : Obj := (⟨(vt "type"), none, (.cls { name := ss "Wheel", bases := [(vt "object")], mro := [(vr 832), (vt "object")], ns := 831, qualname := ss "Wheel", hasDict := true, slotNames := [], subclasses := [], abstract := false, collection := none, hasDel := false }), #[none, none, some (vs "Wheel" 1228), some (vs "Wheel" 1236), some (vb "object.__new__"), some (.bool true)]⟩ : Obj)
noncomputable def o833 (P : Params) : Obj := ob (vt "getset_descriptor") (fl [(vs "__dict__" 1313), (vr 832), (vb "function.__dict__"), (vb "function.__dict__#set")])
noncomputable def o834 (P : Params) : Obj := ob (vt "getset_descriptor") (fl [(vs "__weakref__" 1315), (vr 832), (vb "ExceptionGroup.__weakref__"), vn])
noncomputable def o835 (P : Params) : Obj := ob (vt "super") (fl [(vr 832), (vr 832), (vr 832)])
noncomputable def o836 (P : Params) : Obj := ob (vt "builtin_function_or_method") (fl [(vb "object.__init_subclass__"), (vr 832)])
noncomputable def o837 (P : Params) : Obj := tu []
noncomputable def o838 (P : Params) : Obj := ob (vt "builtin_function_or_method") (fl [(vb "type.__prepare__"), (vt "type")])
noncomputable def o839 (P : Params) : Obj := ob (vt "dict") (dc [(en P "__module__" 1339 (vs "thinstack.tcb" 1320)), (en P "__qualname__" 1341 (vs "Limits" 1340)), (en P "__firstlineno__" 1343 (.int 550 1342)), (en P "__init__" 1360 (vr 850)), (en P "__static_attributes__" 1371 (vr 851))] 5)
noncomputable def o840 (P : Params) : Obj := tu []
noncomputable def o841 (P : Params) : Obj := ob vn (fl [(vi 552), (vi 4), (vr 849)])
noncomputable def o842 (P : Params) : Obj := cO [(vs "Limits" 1334), (vs "Limits" 1335), (vs "/claim/cut.py" 1336), (vi 550), (vi 0), (vi 0), (vi 0), (vi 0), (vr 840), (.bool false), (vi 181), (vr 841), vn, vn, vn, vn, (vi 1337), (vi 550), (vs "/claim/cut.py" 1338)]
noncomputable def o843 (P : Params) : Obj := (⟨(vt "frame"), none, .plain, #[some (vr 842), some (vr 3), some (vr 839), none, some (vs "thinstack.tcb" 1320), none, some (vr 0)]⟩ : Obj)
noncomputable def o844 (P : Params) : Obj := tu []
noncomputable def o845 (P : Params) : Obj := ob vn (fl [])
noncomputable def o846 (P : Params) : Obj := tu [(vs "self" 1347), (vs "ring" 1348), (vs "mss" 1349), (vs "send_room" 1350), (vs "receive_room" 1351), (vs "first_timeout" 1352), (vs "least_timeout" 1353), (vs "most_timeout" 1354), (vs "most_tries" 1355), (vs "ack_delay" 1356), (vs "time_wait" 1357)]
noncomputable def o847 (P : Params) : Obj := tu []
noncomputable def o848 (P : Params) : Obj := ob vn (fO (cS 64 0) "Limits.__init__" 0 vn vn vn vn vn)
noncomputable def o849 (P : Params) : Obj := cO [(vs "__init__" 1344), (vs "Limits.__init__" 1345), (vs "/claim/cut.py" 1346), (vi 552), (vi 11), (vi 0), (vi 0), (vi 3), (vr 844), (.bool true), (vi 181), (vr 845), vn, (vr 846), (vr 847), (vr 848), (vi 1358), (vi 552), (vs "/claim/cut.py" 1359)]
noncomputable def o850 (P : Params) : Obj := ob (vt "function") (fO (cS 64 0) "Limits.__init__" 3 vn vn vn (vs "thinstack.tcb" 1320) (vr 849))
noncomputable def o851 (P : Params) : Obj := tu [(vs "ack_delay" 1361), (vs "first_timeout" 1362), (vs "least_timeout" 1363), (vs "most_timeout" 1364), (vs "most_tries" 1365), (vs "mss" 1366), (vs "receive_room" 1367), (vs "ring" 1368), (vs "send_room" 1369), (vs "time_wait" 1370)]
noncomputable def o852 (P : Params) : Obj := ob (vt "dict") (dc [(en P "__module__" 1339 (vs "thinstack.tcb" 1320)), (en P "__firstlineno__" 1343 (.int 550 1342)), (en P "__init__" 1360 (vr 850)), (en P "__static_attributes__" 1371 (vr 851)), (en P "__dict__" 1373 (vr 854)), (en P "__weakref__" 1375 (vr 855)), (en P "__doc__" 1376 vn)] 4)
noncomputable def o853 (P : Params) : Obj := (⟨(vt "type"), none, (.cls { name := ss "Limits", bases := [(vt "object")], mro := [(vr 853), (vt "object")], ns := 852, qualname := ss "Limits", hasDict := true, slotNames := [], subclasses := [], abstract := false, collection := none, hasDel := false }), #[none, none, some (vs "Limits" 1332), some (vs "Limits" 1340), some (vb "object.__new__"), some (.bool true)]⟩ : Obj)
noncomputable def o854 (P : Params) : Obj := ob (vt "getset_descriptor") (fl [(vs "__dict__" 1372), (vr 853), (vb "function.__dict__"), (vb "function.__dict__#set")])
noncomputable def o855 (P : Params) : Obj := ob (vt "getset_descriptor") (fl [(vs "__weakref__" 1374), (vr 853), (vb "ExceptionGroup.__weakref__"), vn])
noncomputable def o856 (P : Params) : Obj := ob (vt "super") (fl [(vr 853), (vr 853), (vr 853)])
noncomputable def o857 (P : Params) : Obj := ob (vt "builtin_function_or_method") (fl [(vb "object.__init_subclass__"), (vr 853)])
noncomputable def o858 (P : Params) : Obj := tu []
noncomputable def o859 (P : Params) : Obj := ob vn (fl [])
noncomputable def o860 (P : Params) : Obj := tu [(vs "limits" 1382), (vs "estimate" 1383)]
noncomputable def o861 (P : Params) : Obj := tu []
noncomputable def o862 (P : Params) : Obj := ob vn (fO (tS 65) "clock_of" 0 vn vn vn vn vn)
noncomputable def o863 (P : Params) : Obj := cO [(vs "clock_of" 1379), (vs "clock_of" 1380), (vs "/claim/cut.py" 1381), (vi 563), (vi 1), (vi 0), (vi 0), (vi 3), (vr 858), (.bool true), (vi 181), (vr 859), vn, (vr 860), (vr 861), (vr 862), (vi 1384), (vi 563), (vs "/claim/cut.py" 1385)]
noncomputable def o864 (P : Params) : Obj := ob (vt "function") (fO (tS 65) "clock_of" 3 vn vn vn (vs "thinstack.tcb" 1320) (vr 863))
noncomputable def o865 (P : Params) : Obj := tu []
noncomputable def o866 (P : Params) : Obj := ob (vt "builtin_function_or_method") (fl [(vb "type.__prepare__"), (vt "type")])
noncomputable def o867 (P : Params) : Obj := ob (vt "dict") (dc [(en P "__module__" 1394 (vs "thinstack.tcb" 1320)), (en P "__qualname__" 1396 (vs "Tcb" 1395)), (en P "__firstlineno__" 1398 (.int 566 1397)), (en P "__init__" 1409 (vr 878)), (en P "window_now" 1416 (vr 885)), (en P "make" 1430 (vr 893)), (en P "__static_attributes__" 1445 (vr 894))] 7)
noncomputable def o868 (P : Params) : Obj := tu []
noncomputable def o869 (P : Params) : Obj := ob vn (fl [(vi 568), (vi 4), (vr 877), (vi 584), (vi 4), (vr 884), (vi 589), (vi 4), (vr 892)])
noncomputable def o870 (P : Params) : Obj := cO [(vs "Tcb" 1389), (vs "Tcb" 1390), (vs "/claim/cut.py" 1391), (vi 566), (vi 0), (vi 0), (vi 0), (vi 0), (vr 868), (.bool false), (vi 181), (vr 869), vn, vn, vn, vn, (vi 1392), (vi 566), (vs "/claim/cut.py" 1393)]
noncomputable def o871 (P : Params) : Obj := (⟨(vt "frame"), none, .plain, #[some (vr 870), some (vr 3), some (vr 867), none, some (vs "thinstack.tcb" 1320), none, some (vr 0)]⟩ : Obj)
noncomputable def o872 (P : Params) : Obj := tu []
noncomputable def o873 (P : Params) : Obj := ob vn (fl [])
noncomputable def o874 (P : Params) : Obj := tu [(vs "self" 1402), (vs "limits" 1403), (vs "local" 1404), (vs "remote" 1405), (vs "iss" 1406)]
noncomputable def o875 (P : Params) : Obj := tu []
noncomputable def o876 (P : Params) : Obj := ob vn (fO (cS 66 0) "Tcb.__init__" 0 vn vn vn vn vn)
noncomputable def o877 (P : Params) : Obj := cO [(vs "__init__" 1399), (vs "Tcb.__init__" 1400), (vs "/claim/cut.py" 1401), (vi 568), (vi 5), (vi 0), (vi 0), (vi 3), (vr 872), (.bool true), (vi 181), (vr 873), vn, (vr 874), (vr 875), (vr 876), (vi 1407), (vi 568), (vs "/claim/cut.py" 1408)]
noncomputable def o878 (P : Params) : Obj := ob (vt "function") (fO (cS 66 0) "Tcb.__init__" 3 vn vn vn (vs "thinstack.tcb" 1320) (vr 877))
noncomputable def o879 (P : Params) : Obj := tu []
noncomputable def o880 (P : Params) : Obj := ob vn (fl [])
noncomputable def o881 (P : Params) : Obj := tu [(vs "self" 1413)]
noncomputable def o882 (P : Params) : Obj := tu []
noncomputable def o883 (P : Params) : Obj := ob vn (fO (cS 66 1) "Tcb.window_now" 0 vn vn vn vn vn)
noncomputable def o884 (P : Params) : Obj := cO [(vs "window_now" 1410), (vs "Tcb.window_now" 1411), (vs "/claim/cut.py" 1412), (vi 584), (vi 1), (vi 0), (vi 0), (vi 3), (vr 879), (.bool true), (vi 181), (vr 880), vn, (vr 881), (vr 882), (vr 883), (vi 1414), (vi 584), (vs "/claim/cut.py" 1415)]
noncomputable def o885 (P : Params) : Obj := ob (vt "function") (fO (cS 66 1) "Tcb.window_now" 3 vn vn vn (vs "thinstack.tcb" 1320) (vr 884))
noncomputable def o886 (P : Params) : Obj := tu [(.bytes #[] 1417)]
noncomputable def o887 (P : Params) : Obj := tu []
noncomputable def o888 (P : Params) : Obj := ob vn (fl [])
noncomputable def o889 (P : Params) : Obj := tu [(vs "self" 1421), (vs "flags" 1422), (vs "seq" 1423), (vs "payload" 1424), (vs "ack" 1425), (vs "options" 1426), (vs "window" 1427)]
noncomputable def o890 (P : Params) : Obj := tu []
noncomputable def o891 (P : Params) : Obj := ob vn (fO (cS 66 2) "Tcb.make" 0 vn vn vn vn vn)
noncomputable def o892 (P : Params) : Obj := cO [(vs "make" 1418), (vs "Tcb.make" 1419), (vs "/claim/cut.py" 1420), (vi 589), (vi 4), (vi 0), (vi 0), (vi 3), (vr 887), (.bool true), (vi 181), (vr 888), vn, (vr 889), (vr 890), (vr 891), (vi 1428), (vi 589), (vs "/claim/cut.py" 1429)]
noncomputable def o893 (P : Params) : Obj := ob (vt "function") (fO (cS 66 2) "Tcb.make" 3 (vr 886) vn vn (vs "thinstack.tcb" 1320) (vr 892))
noncomputable def o894 (P : Params) : Obj := tu [(vs "acks" 1431), (vs "clock" 1432), (vs "congestion" 1433), (vs "error" 1434), (vs "is_nagle" 1435), (vs "limits" 1436), (vs "local" 1437), (vs "probes" 1438), (vs "receiver" 1439), (vs "remote" 1440), (vs "sender" 1441), (vs "state" 1442), (vs "unanswered" 1443), (vs "wheel" 1444)]
noncomputable def o895 (P : Params) : Obj := ob (vt "dict") (dc [(en P "__module__" 1394 (vs "thinstack.tcb" 1320)), (en P "__firstlineno__" 1398 (.int 566 1397)), (en P "__init__" 1409 (vr 878)), (en P "window_now" 1416 (vr 885)), (en P "make" 1430 (vr 893)), (en P "__static_attributes__" 1445 (vr 894)), (en P "__dict__" 1447 (vr 897)), (en P "__weakref__" 1449 (vr 898)), (en P "__doc__" 1450 vn)] 4)
noncomputable def o896 (P : Params) : Obj := (⟨(vt "type"), none, (.cls { name := ss "Tcb", bases := [(vt "object")], mro := [(vr 896), (vt "object")], ns := 895, qualname := ss "Tcb", hasDict := true, slotNames := [], subclasses := [], abstract := false, collection := none, hasDel := false }), #[none, none, some (vs "Tcb" 1387), some (vs "Tcb" 1395), some (vb "object.__new__"), some (.bool true)]⟩ : Obj)
noncomputable def o897 (P : Params) : Obj := ob (vt "getset_descriptor") (fl [(vs "__dict__" 1446), (vr 896), (vb "function.__dict__"), (vb "function.__dict__#set")])
noncomputable def o898 (P : Params) : Obj := ob (vt "getset_descriptor") (fl [(vs "__weakref__" 1448), (vr 896), (vb "ExceptionGroup.__weakref__"), vn])
noncomputable def o899 (P : Params) : Obj := ob (vt "super") (fl [(vr 896), (vr 896), (vr 896)])
noncomputable def o900 (P : Params) : Obj := ob (vt "builtin_function_or_method") (fl [(vb "object.__init_subclass__"), (vr 896)])
noncomputable def o901 (P : Params) : Obj := tu []
noncomputable def o902 (P : Params) : Obj := ob vn (fl [])
noncomputable def o903 (P : Params) : Obj := tu [(vs "tcb" 1460), (vs "event" 1461), (vs "state" 1462)]
noncomputable def o904 (P : Params) : Obj := tu []
noncomputable def o905 (P : Params) : Obj := ob vn (fO (tS 69) "change_state" 0 vn vn vn vn vn)
noncomputable def o906 (P : Params) : Obj := cO [(vs "change_state" 1457), (vs "change_state" 1458), (vs "/claim/cut.py" 1459), (vi 601), (vi 2), (vi 0), (vi 0), (vi 3), (vr 901), (.bool true), (vi 181), (vr 902), vn, (vr 903), (vr 904), (vr 905), (vi 1463), (vi 601), (vs "/claim/cut.py" 1464)]
noncomputable def o907 (P : Params) : Obj := ob (vt "function") (fO (tS 69) "change_state" 3 vn vn vn (vs "thinstack.tcp_user" 1453) (vr 906))
noncomputable def o908 (P : Params) : Obj := tu []
noncomputable def o909 (P : Params) : Obj := ob vn (fl [])
noncomputable def o910 (P : Params) : Obj := tu [(vs "tcb" 1469), (vs "error" 1470), (vs "key" 1471)]
noncomputable def o911 (P : Params) : Obj := tu []
noncomputable def o912 (P : Params) : Obj := ob vn (fO (tS 70) "closed" 0 vn vn vn vn vn)
noncomputable def o913 (P : Params) : Obj := cO [(vs "closed" 1466), (vs "closed" 1467), (vs "/claim/cut.py" 1468), (vi 606), (vi 2), (vi 0), (vi 0), (vi 3), (vr 908), (.bool true), (vi 181), (vr 909), vn, (vr 910), (vr 911), (vr 912), (vi 1472), (vi 606), (vs "/claim/cut.py" 1473)]
noncomputable def o914 (P : Params) : Obj := ob (vt "function") (fO (tS 70) "closed" 3 vn vn vn (vs "thinstack.tcp_user" 1453) (vr 913))
noncomputable def o915 (P : Params) : Obj := tu []
noncomputable def o916 (P : Params) : Obj := ob vn (fl [])
noncomputable def o917 (P : Params) : Obj := tu [(vs "tcb" 1478), (vs "now" 1479), (vs "key" 1480)]
noncomputable def o918 (P : Params) : Obj := tu []
noncomputable def o919 (P : Params) : Obj := ob vn (fO (tS 71) "enter_time_wait" 0 vn vn vn vn vn)
noncomputable def o920 (P : Params) : Obj := cO [(vs "enter_time_wait" 1475), (vs "enter_time_wait" 1476), (vs "/claim/cut.py" 1477), (vi 612), (vi 2), (vi 0), (vi 0), (vi 3), (vr 915), (.bool true), (vi 181), (vr 916), vn, (vr 917), (vr 918), (vr 919), (vi 1481), (vi 612), (vs "/claim/cut.py" 1482)]
noncomputable def o921 (P : Params) : Obj := ob (vt "function") (fO (tS 71) "enter_time_wait" 3 vn vn vn (vs "thinstack.tcp_user" 1453) (vr 920))
noncomputable def o922 (P : Params) : Obj := tu []
noncomputable def o923 (P : Params) : Obj := ob vn (fl [])
noncomputable def o924 (P : Params) : Obj := tu [(vs "tcb" 1487)]
noncomputable def o925 (P : Params) : Obj := tu []
noncomputable def o926 (P : Params) : Obj := ob vn (fO (tS 72) "ack_segment" 0 vn vn vn vn vn)
noncomputable def o927 (P : Params) : Obj := cO [(vs "ack_segment" 1484), (vs "ack_segment" 1485), (vs "/claim/cut.py" 1486), (vi 617), (vi 1), (vi 0), (vi 0), (vi 3), (vr 922), (.bool true), (vi 181), (vr 923), vn, (vr 924), (vr 925), (vr 926), (vi 1488), (vi 617), (vs "/claim/cut.py" 1489)]
noncomputable def o928 (P : Params) : Obj := ob (vt "function") (fO (tS 72) "ack_segment" 3 vn vn vn (vs "thinstack.tcp_user" 1453) (vr 927))
noncomputable def o929 (P : Params) : Obj := tu []
noncomputable def o930 (P : Params) : Obj := ob vn (fl [])
noncomputable def o931 (P : Params) : Obj := tu [(vs "tcb" 1494)]
noncomputable def o932 (P : Params) : Obj := tu []
noncomputable def o933 (P : Params) : Obj := ob vn (fO (tS 73) "syn_segment" 0 vn vn vn vn vn)
noncomputable def o934 (P : Params) : Obj := cO [(vs "syn_segment" 1491), (vs "syn_segment" 1492), (vs "/claim/cut.py" 1493), (vi 619), (vi 1), (vi 0), (vi 0), (vi 3), (vr 929), (.bool true), (vi 181), (vr 930), vn, (vr 931), (vr 932), (vr 933), (vi 1495), (vi 619), (vs "/claim/cut.py" 1496)]
noncomputable def o935 (P : Params) : Obj := ob (vt "function") (fO (tS 73) "syn_segment" 3 vn vn vn (vs "thinstack.tcp_user" 1453) (vr 934))
noncomputable def o936 (P : Params) : Obj := tu []
noncomputable def o937 (P : Params) : Obj := ob vn (fl [])
noncomputable def o938 (P : Params) : Obj := tu [(vs "has_push" 1501), (vs "has_fin" 1502), (vs "flags" 1503)]
noncomputable def o939 (P : Params) : Obj := tu []
noncomputable def o940 (P : Params) : Obj := ob vn (fO (tS 74) "flags_of" 0 vn vn vn vn vn)
noncomputable def o941 (P : Params) : Obj := cO [(vs "flags_of" 1498), (vs "flags_of" 1499), (vs "/claim/cut.py" 1500), (vi 621), (vi 2), (vi 0), (vi 0), (vi 3), (vr 936), (.bool true), (vi 181), (vr 937), vn, (vr 938), (vr 939), (vr 940), (vi 1504), (vi 621), (vs "/claim/cut.py" 1505)]
noncomputable def o942 (P : Params) : Obj := ob (vt "function") (fO (tS 74) "flags_of" 3 vn vn vn (vs "thinstack.tcp_user" 1453) (vr 941))
noncomputable def o943 (P : Params) : Obj := tu []
noncomputable def o944 (P : Params) : Obj := ob vn (fl [])
noncomputable def o945 (P : Params) : Obj := tu [(vs "tcb" 1510), (vs "state" 1511)]
noncomputable def o946 (P : Params) : Obj := tu []
noncomputable def o947 (P : Params) : Obj := ob vn (fO (tS 75) "take_asked_fin" 0 vn vn vn vn vn)
noncomputable def o948 (P : Params) : Obj := cO [(vs "take_asked_fin" 1507), (vs "take_asked_fin" 1508), (vs "/claim/cut.py" 1509), (vi 628), (vi 1), (vi 0), (vi 0), (vi 3), (vr 943), (.bool true), (vi 181), (vr 944), vn, (vr 945), (vr 946), (vr 947), (vi 1512), (vi 628), (vs "/claim/cut.py" 1513)]
noncomputable def o949 (P : Params) : Obj := ob (vt "function") (fO (tS 75) "take_asked_fin" 3 vn vn vn (vs "thinstack.tcp_user" 1453) (vr 948))
noncomputable def o950 (P : Params) : Obj := tu []
noncomputable def o951 (P : Params) : Obj := ob vn (fl [])
noncomputable def o952 (P : Params) : Obj := tu [(vs "tcb" 1518), (vs "now" 1519), (vs "found" 1520), (vs "ring" 1521), (vs "ahead" 1522), (vs "seq" 1523), (vs "octets" 1524), (vs "has_push" 1525), (vs "has_fin" 1526), (vs "end" 1527)]
noncomputable def o953 (P : Params) : Obj := tu []
noncomputable def o954 (P : Params) : Obj := ob vn (fO (tS 76) "data_segments" 0 vn vn vn vn vn)
noncomputable def o955 (P : Params) : Obj := cO [(vs "data_segments" 1515), (vs "data_segments" 1516), (vs "/claim/cut.py" 1517), (vi 633), (vi 2), (vi 0), (vi 0), (vi 3), (vr 950), (.bool true), (vi 181), (vr 951), vn, (vr 952), (vr 953), (vr 954), (vi 1528), (vi 633), (vs "/claim/cut.py" 1529)]
noncomputable def o956 (P : Params) : Obj := ob (vt "function") (fO (tS 76) "data_segments" 3 vn vn vn (vs "thinstack.tcp_user" 1453) (vr 955))
noncomputable def o957 (P : Params) : Obj := tu []
noncomputable def o958 (P : Params) : Obj := ob vn (fl [])
noncomputable def o959 (P : Params) : Obj := tu [(vs "tcb" 1534), (vs "now" 1535), (vs "found" 1536)]
noncomputable def o960 (P : Params) : Obj := tu []
noncomputable def o961 (P : Params) : Obj := ob vn (fO (tS 77) "output" 0 vn vn vn vn vn)
noncomputable def o962 (P : Params) : Obj := cO [(vs "output" 1531), (vs "output" 1532), (vs "/claim/cut.py" 1533), (vi 643), (vi 2), (vi 0), (vi 0), (vi 3), (vr 957), (.bool true), (vi 181), (vr 958), vn, (vr 959), (vr 960), (vr 961), (vi 1537), (vi 643), (vs "/claim/cut.py" 1538)]
noncomputable def o963 (P : Params) : Obj := ob (vt "function") (fO (tS 77) "output" 3 vn vn vn (vs "thinstack.tcp_user" 1453) (vr 962))
noncomputable def o964 (P : Params) : Obj := tu []
noncomputable def o965 (P : Params) : Obj := ob vn (fl [])
noncomputable def o966 (P : Params) : Obj := tu [(vs "tcb" 1543), (vs "now" 1544)]
noncomputable def o967 (P : Params) : Obj := tu []
noncomputable def o968 (P : Params) : Obj := ob vn (fO (tS 78) "set_resend" 0 vn vn vn vn vn)
noncomputable def o969 (P : Params) : Obj := cO [(vs "set_resend" 1540), (vs "set_resend" 1541), (vs "/claim/cut.py" 1542), (vi 654), (vi 2), (vi 0), (vi 0), (vi 3), (vr 964), (.bool true), (vi 181), (vr 965), vn, (vr 966), (vr 967), (vr 968), (vi 1545), (vi 654), (vs "/claim/cut.py" 1546)]
noncomputable def o970 (P : Params) : Obj := ob (vt "function") (fO (tS 78) "set_resend" 3 vn vn vn (vs "thinstack.tcp_user" 1453) (vr 969))
noncomputable def o971 (P : Params) : Obj := tu []
noncomputable def o972 (P : Params) : Obj := ob vn (fl [])
noncomputable def o973 (P : Params) : Obj := tu [(vs "tcb" 1551), (vs "now" 1552)]
noncomputable def o974 (P : Params) : Obj := tu []
noncomputable def o975 (P : Params) : Obj := ob vn (fO (tS 79) "keep_timers" 0 vn vn vn vn vn)
noncomputable def o976 (P : Params) : Obj := cO [(vs "keep_timers" 1548), (vs "keep_timers" 1549), (vs "/claim/cut.py" 1550), (vi 659), (vi 2), (vi 0), (vi 0), (vi 3), (vr 971), (.bool true), (vi 181), (vr 972), vn, (vr 973), (vr 974), (vr 975), (vi 1553), (vi 659), (vs "/claim/cut.py" 1554)]
noncomputable def o977 (P : Params) : Obj := ob (vt "function") (fO (tS 79) "keep_timers" 3 vn vn vn (vs "thinstack.tcp_user" 1453) (vr 976))
noncomputable def o978 (P : Params) : Obj := tu []
noncomputable def o979 (P : Params) : Obj := ob vn (fl [])
noncomputable def o980 (P : Params) : Obj := tu [(vs "tcb" 1559), (vs "estimate" 1560)]
noncomputable def o981 (P : Params) : Obj := tu []
noncomputable def o982 (P : Params) : Obj := ob vn (fO (tS 80) "probe_wait" 0 vn vn vn vn vn)
noncomputable def o983 (P : Params) : Obj := cO [(vs "probe_wait" 1556), (vs "probe_wait" 1557), (vs "/claim/cut.py" 1558), (vi 671), (vi 1), (vi 0), (vi 0), (vi 3), (vr 978), (.bool true), (vi 181), (vr 979), vn, (vr 980), (vr 981), (vr 982), (vi 1561), (vi 671), (vs "/claim/cut.py" 1562)]
noncomputable def o984 (P : Params) : Obj := ob (vt "function") (fO (tS 80) "probe_wait" 3 vn vn vn (vs "thinstack.tcp_user" 1453) (vr 983))
noncomputable def o985 (P : Params) : Obj := tu []
noncomputable def o986 (P : Params) : Obj := ob vn (fl [])
noncomputable def o987 (P : Params) : Obj := tu [(vs "tcb" 1567), (vs "seq" 1568), (vs "octets" 1569), (vs "has_syn" 1570), (vs "has_fin" 1571)]
noncomputable def o988 (P : Params) : Obj := tu []
noncomputable def o989 (P : Params) : Obj := ob vn (fO (tS 81) "segment_again" 0 vn vn vn vn vn)
noncomputable def o990 (P : Params) : Obj := cO [(vs "segment_again" 1564), (vs "segment_again" 1565), (vs "/claim/cut.py" 1566), (vi 674), (vi 1), (vi 0), (vi 0), (vi 3), (vr 985), (.bool true), (vi 181), (vr 986), vn, (vr 987), (vr 988), (vr 989), (vi 1572), (vi 674), (vs "/claim/cut.py" 1573)]
noncomputable def o991 (P : Params) : Obj := ob (vt "function") (fO (tS 81) "segment_again" 3 vn vn vn (vs "thinstack.tcp_user" 1453) (vr 990))
noncomputable def o992 (P : Params) : Obj := tu []
noncomputable def o993 (P : Params) : Obj := ob vn (fl [])
noncomputable def o994 (P : Params) : Obj := tu [(vs "tcb" 1580), (vs "segment" 1581), (vs "now" 1582), (vs "found" 1583)]
noncomputable def o995 (P : Params) : Obj := tu []
noncomputable def o996 (P : Params) : Obj := ob vn (fO (tS 83) "turned_down" 0 vn vn vn vn vn)
noncomputable def o997 (P : Params) : Obj := cO [(vs "turned_down" 1577), (vs "turned_down" 1578), (vs "/claim/cut.py" 1579), (vi 681), (vi 3), (vi 0), (vi 0), (vi 3), (vr 992), (.bool true), (vi 181), (vr 993), vn, (vr 994), (vr 995), (vr 996), (vi 1584), (vi 681), (vs "/claim/cut.py" 1585)]
noncomputable def o998 (P : Params) : Obj := ob (vt "function") (fO (tS 83) "turned_down" 3 vn vn vn (vs "thinstack.tcp_input" 1575) (vr 997))
noncomputable def o999 (P : Params) : Obj := tu []
noncomputable def o1000 (P : Params) : Obj := ob vn (fl [])
noncomputable def o1001 (P : Params) : Obj := tu [(vs "tcb" 1590), (vs "segment" 1591)]
noncomputable def o1002 (P : Params) : Obj := tu []
noncomputable def o1003 (P : Params) : Obj := ob vn (fO (tS 84) "is_old_acknowledgement" 0 vn vn vn vn vn)
noncomputable def o1004 (P : Params) : Obj := cO [(vs "is_old_acknowledgement" 1587), (vs "is_old_acknowledgement" 1588), (vs "/claim/cut.py" 1589), (vi 693), (vi 2), (vi 0), (vi 0), (vi 3), (vr 999), (.bool true), (vi 181), (vr 1000), vn, (vr 1001), (vr 1002), (vr 1003), (vi 1592), (vi 693), (vs "/claim/cut.py" 1593)]
noncomputable def o1005 (P : Params) : Obj := ob (vt "function") (fO (tS 84) "is_old_acknowledgement" 3 vn vn vn (vs "thinstack.tcp_input" 1575) (vr 1004))
noncomputable def o1006 (P : Params) : Obj := tu []
noncomputable def o1007 (P : Params) : Obj := ob vn (fl [])
noncomputable def o1008 (P : Params) : Obj := tu [(vs "tcb" 1598), (vs "ack" 1599), (vs "sender" 1600), (vs "ring" 1601)]
noncomputable def o1009 (P : Params) : Obj := tu []
noncomputable def o1010 (P : Params) : Obj := ob vn (fO (tS 85) "is_too_far" 0 vn vn vn vn vn)
noncomputable def o1011 (P : Params) : Obj := cO [(vs "is_too_far" 1595), (vs "is_too_far" 1596), (vs "/claim/cut.py" 1597), (vi 697), (vi 2), (vi 0), (vi 0), (vi 3), (vr 1006), (.bool true), (vi 181), (vr 1007), vn, (vr 1008), (vr 1009), (vr 1010), (vi 1602), (vi 697), (vs "/claim/cut.py" 1603)]
noncomputable def o1012 (P : Params) : Obj := ob (vt "function") (fO (tS 85) "is_too_far" 3 vn vn vn (vs "thinstack.tcp_input" 1575) (vr 1011))
noncomputable def o1013 (P : Params) : Obj := tu []
noncomputable def o1014 (P : Params) : Obj := ob vn (fl [])
noncomputable def o1015 (P : Params) : Obj := tu [(vs "tcb" 1608), (vs "ack" 1609), (vs "now" 1610), (vs "octets" 1611), (vs "is_syn" 1612), (vs "is_fin" 1613)]
noncomputable def o1016 (P : Params) : Obj := tu []
noncomputable def o1017 (P : Params) : Obj := ob vn (fO (tS 86) "take_ack" 0 vn vn vn vn vn)
noncomputable def o1018 (P : Params) : Obj := cO [(vs "take_ack" 1605), (vs "take_ack" 1606), (vs "/claim/cut.py" 1607), (vi 701), (vi 3), (vi 0), (vi 0), (vi 3), (vr 1013), (.bool true), (vi 181), (vr 1014), vn, (vr 1015), (vr 1016), (vr 1017), (vi 1614), (vi 701), (vs "/claim/cut.py" 1615)]
noncomputable def o1019 (P : Params) : Obj := ob (vt "function") (fO (tS 86) "take_ack" 3 vn vn vn (vs "thinstack.tcp_input" 1575) (vr 1018))
noncomputable def o1020 (P : Params) : Obj := tu []
noncomputable def o1021 (P : Params) : Obj := ob vn (fl [])
noncomputable def o1022 (P : Params) : Obj := tu [(vs "tcb" 1620), (vs "segment" 1621), (vs "now" 1622), (vs "sender" 1623), (vs "ring" 1624), (vs "found" 1625), (vs "many" 1626), (vs "is_fin" 1627)]
noncomputable def o1023 (P : Params) : Obj := tu []
noncomputable def o1024 (P : Params) : Obj := ob vn (fO (tS 87) "take_acknowledgement" 0 vn vn vn vn vn)
noncomputable def o1025 (P : Params) : Obj := cO [(vs "take_acknowledgement" 1617), (vs "take_acknowledgement" 1618), (vs "/claim/cut.py" 1619), (vi 708), (vi 3), (vi 0), (vi 0), (vi 3), (vr 1020), (.bool true), (vi 181), (vr 1021), vn, (vr 1022), (vr 1023), (vr 1024), (vi 1628), (vi 708), (vs "/claim/cut.py" 1629)]
noncomputable def o1026 (P : Params) : Obj := ob (vt "function") (fO (tS 87) "take_acknowledgement" 3 vn vn vn (vs "thinstack.tcp_input" 1575) (vr 1025))
noncomputable def o1027 (P : Params) : Obj := tu []
noncomputable def o1028 (P : Params) : Obj := ob vn (fl [])
noncomputable def o1029 (P : Params) : Obj := tu [(vs "tcb" 1634), (vs "segment" 1635), (vs "now" 1636), (vs "sender" 1637), (vs "found" 1638)]
noncomputable def o1030 (P : Params) : Obj := tu []
noncomputable def o1031 (P : Params) : Obj := ob vn (fO (tS 88) "take_duplicate" 0 vn vn vn vn vn)
noncomputable def o1032 (P : Params) : Obj := cO [(vs "take_duplicate" 1631), (vs "take_duplicate" 1632), (vs "/claim/cut.py" 1633), (vi 727), (vi 3), (vi 0), (vi 0), (vi 3), (vr 1027), (.bool true), (vi 181), (vr 1028), vn, (vr 1029), (vr 1030), (vr 1031), (vi 1639), (vi 727), (vs "/claim/cut.py" 1640)]
noncomputable def o1033 (P : Params) : Obj := ob (vt "function") (fO (tS 88) "take_duplicate" 3 vn vn vn (vs "thinstack.tcp_input" 1575) (vr 1032))
noncomputable def o1034 (P : Params) : Obj := tu []
noncomputable def o1035 (P : Params) : Obj := ob vn (fl [])
noncomputable def o1036 (P : Params) : Obj := tu [(vs "tcb" 1645), (vs "now" 1646)]
noncomputable def o1037 (P : Params) : Obj := tu []
noncomputable def o1038 (P : Params) : Obj := ob vn (fO (tS 89) "end_of_sending" 0 vn vn vn vn vn)
noncomputable def o1039 (P : Params) : Obj := cO [(vs "end_of_sending" 1642), (vs "end_of_sending" 1643), (vs "/claim/cut.py" 1644), (vi 736), (vi 2), (vi 0), (vi 0), (vi 3), (vr 1034), (.bool true), (vi 181), (vr 1035), vn, (vr 1036), (vr 1037), (vr 1038), (vi 1647), (vi 736), (vs "/claim/cut.py" 1648)]
noncomputable def o1040 (P : Params) : Obj := ob (vt "function") (fO (tS 89) "end_of_sending" 3 vn vn vn (vs "thinstack.tcp_input" 1575) (vr 1039))
noncomputable def o1041 (P : Params) : Obj := tu []
noncomputable def o1042 (P : Params) : Obj := ob (vt "builtin_function_or_method") (fl [(vb "type.__prepare__"), (vt "type")])
noncomputable def o1043 (P : Params) : Obj := ob (vt "dict") (dc [(en P "__module__" 1659 (vs "thinstack.assembly" 1650)), (en P "__qualname__" 1661 (vs "Assembly" 1660)), (en P "__firstlineno__" 1663 (.int 744 1662)), (en P "__init__" 1671 (vr 1054)), (en P "size" 1677 (vr 1059)), (en P "is_empty" 1684 (vr 1066)), (en P "offset" 1693 (vr 1073)), (en P "put" 1705 (vr 1080)), (en P "missing" 1722 (vr 1087)), (en P "merged" 1736 (vr 1094)), (en P "joined" 1751 (vr 1101)), (en P "forget" 1762 (vr 1108)), (en P "take" 1770 (vr 1115)), (en P "holes" 1783 (vr 1122)), (en P "cut_behind" 1792 (vr 1129)), (en P "__static_attributes__" 1795 (vr 1130))] 16)
noncomputable def o1044 (P : Params) : Obj := tu []
noncomputable def o1045 (P : Params) : Obj := ob vn (fl [(vi 746), (vi 4), (vr 1053), (vi 750), (vi 4), (vr 1058), (vi 753), (vi 4), (vr 1065), (vi 756), (vi 4), (vr 1072), (vi 761), (vi 4), (vr 1079), (vi 771), (vi 4), (vr 1086), (vi 788), (vi 4), (vr 1093), (vi 797), (vi 4), (vr 1100), (vi 808), (vi 4), (vr 1107), (vi 819), (vi 4), (vr 1114), (vi 825), (vi 4), (vr 1121), (vi 834), (vi 4), (vr 1128)])
noncomputable def o1046 (P : Params) : Obj := cO [(vs "Assembly" 1654), (vs "Assembly" 1655), (vs "/claim/cut.py" 1656), (vi 744), (vi 0), (vi 0), (vi 0), (vi 0), (vr 1044), (.bool false), (vi 181), (vr 1045), vn, vn, vn, vn, (vi 1657), (vi 744), (vs "/claim/cut.py" 1658)]
noncomputable def o1047 (P : Params) : Obj := (⟨(vt "frame"), none, .plain, #[some (vr 1046), some (vr 3), some (vr 1043), none, some (vs "thinstack.assembly" 1650), none, some (vr 0)]⟩ : Obj)
noncomputable def o1048 (P : Params) : Obj := tu []
noncomputable def o1049 (P : Params) : Obj := ob vn (fl [])
noncomputable def o1050 (P : Params) : Obj := tu [(vs "self" 1667), (vs "ring" 1668)]
noncomputable def o1051 (P : Params) : Obj := tu []
noncomputable def o1052 (P : Params) : Obj := ob vn (fO (cS 91 0) "Assembly.__init__" 0 vn vn vn vn vn)
noncomputable def o1053 (P : Params) : Obj := cO [(vs "__init__" 1664), (vs "Assembly.__init__" 1665), (vs "/claim/cut.py" 1666), (vi 746), (vi 2), (vi 0), (vi 0), (vi 3), (vr 1048), (.bool true), (vi 181), (vr 1049), vn, (vr 1050), (vr 1051), (vr 1052), (vi 1669), (vi 746), (vs "/claim/cut.py" 1670)]
noncomputable def o1054 (P : Params) : Obj := ob (vt "function") (fO (cS 91 0) "Assembly.__init__" 3 vn vn vn (vs "thinstack.assembly" 1650) (vr 1053))
noncomputable def o1055 (P : Params) : Obj := tu []
noncomputable def o1056 (P : Params) : Obj := ob vn (fl [])
noncomputable def o1057 (P : Params) : Obj := ob vn (fO (cS 91 1) "Assembly.size" 0 vn vn vn vn vn)
noncomputable def o1058 (P : Params) : Obj := cO [(vs "size" 1672), (vs "Assembly.size" 1673), (vs "/claim/cut.py" 1674), (vi 750), (vi 1), (vi 0), (vi 0), (vi 3), (vr 1055), (.bool true), (vi 181), (vr 1056), vn, vn, vn, (vr 1057), (vi 1675), (vi 750), (vs "/claim/cut.py" 1676)]
noncomputable def o1059 (P : Params) : Obj := ob (vt "function") (fO (cS 91 1) "Assembly.size" 3 vn vn vn (vs "thinstack.assembly" 1650) (vr 1058))
noncomputable def o1060 (P : Params) : Obj := tu []
noncomputable def o1061 (P : Params) : Obj := ob vn (fl [])
noncomputable def o1062 (P : Params) : Obj := tu [(vs "self" 1681)]
noncomputable def o1063 (P : Params) : Obj := tu []
noncomputable def o1064 (P : Params) : Obj := ob vn (fO (cS 91 2) "Assembly.is_empty" 0 vn vn vn vn vn)
noncomputable def o1065 (P : Params) : Obj := cO [(vs "is_empty" 1678), (vs "Assembly.is_empty" 1679), (vs "/claim/cut.py" 1680), (vi 753), (vi 1), (vi 0), (vi 0), (vi 3), (vr 1060), (.bool true), (vi 181), (vr 1061), vn, (vr 1062), (vr 1063), (vr 1064), (vi 1682), (vi 753), (vs "/claim/cut.py" 1683)]
noncomputable def o1066 (P : Params) : Obj := ob (vt "function") (fO (cS 91 2) "Assembly.is_empty" 3 vn vn vn (vs "thinstack.assembly" 1650) (vr 1065))
noncomputable def o1067 (P : Params) : Obj := tu []
noncomputable def o1068 (P : Params) : Obj := ob vn (fl [])
noncomputable def o1069 (P : Params) : Obj := tu [(vs "self" 1688), (vs "seq" 1689), (vs "next" 1690)]
noncomputable def o1070 (P : Params) : Obj := tu []
noncomputable def o1071 (P : Params) : Obj := ob vn (fO (cS 91 3) "Assembly.offset" 0 vn vn vn vn vn)
noncomputable def o1072 (P : Params) : Obj := cO [(vs "offset" 1685), (vs "Assembly.offset" 1686), (vs "/claim/cut.py" 1687), (vi 756), (vi 3), (vi 0), (vi 0), (vi 3), (vr 1067), (.bool true), (vi 181), (vr 1068), vn, (vr 1069), (vr 1070), (vr 1071), (vi 1691), (vi 756), (vs "/claim/cut.py" 1692)]
noncomputable def o1073 (P : Params) : Obj := ob (vt "function") (fO (cS 91 3) "Assembly.offset" 3 vn vn vn (vs "thinstack.assembly" 1650) (vr 1072))
noncomputable def o1074 (P : Params) : Obj := tu []
noncomputable def o1075 (P : Params) : Obj := ob vn (fl [])
noncomputable def o1076 (P : Params) : Obj := tu [(vs "self" 1697), (vs "seq" 1698), (vs "octets" 1699), (vs "next" 1700), (vs "begin" 1701), (vs "fresh" 1702)]
noncomputable def o1077 (P : Params) : Obj := tu []
noncomputable def o1078 (P : Params) : Obj := ob vn (fO (cS 91 4) "Assembly.put" 0 vn vn vn vn vn)
noncomputable def o1079 (P : Params) : Obj := cO [(vs "put" 1694), (vs "Assembly.put" 1695), (vs "/claim/cut.py" 1696), (vi 761), (vi 4), (vi 0), (vi 0), (vi 3), (vr 1074), (.bool true), (vi 181), (vr 1075), vn, (vr 1076), (vr 1077), (vr 1078), (vi 1703), (vi 761), (vs "/claim/cut.py" 1704)]
noncomputable def o1080 (P : Params) : Obj := ob (vt "function") (fO (cS 91 4) "Assembly.put" 3 vn vn vn (vs "thinstack.assembly" 1650) (vr 1079))
noncomputable def o1081 (P : Params) : Obj := tu []
noncomputable def o1082 (P : Params) : Obj := ob vn (fl [])
noncomputable def o1083 (P : Params) : Obj := tu [(vs "self" 1709), (vs "begin" 1710), (vs "octets" 1711), (vs "next" 1712), (vs "end" 1713), (vs "found" 1714), (vs "at" 1715), (vs "seq" 1716), (vs "kept" 1717), (vs "first" 1718), (vs "last" 1719)]
noncomputable def o1084 (P : Params) : Obj := tu []
noncomputable def o1085 (P : Params) : Obj := ob vn (fO (cS 91 5) "Assembly.missing" 0 vn vn vn vn vn)
noncomputable def o1086 (P : Params) : Obj := cO [(vs "missing" 1706), (vs "Assembly.missing" 1707), (vs "/claim/cut.py" 1708), (vi 771), (vi 4), (vi 0), (vi 0), (vi 3), (vr 1081), (.bool true), (vi 181), (vr 1082), vn, (vr 1083), (vr 1084), (vr 1085), (vi 1720), (vi 771), (vs "/claim/cut.py" 1721)]
noncomputable def o1087 (P : Params) : Obj := ob (vt "function") (fO (cS 91 5) "Assembly.missing" 3 vn vn vn (vs "thinstack.assembly" 1650) (vr 1086))
noncomputable def o1088 (P : Params) : Obj := tu []
noncomputable def o1089 (P : Params) : Obj := ob vn (fl [])
noncomputable def o1090 (P : Params) : Obj := tu [(vs "self" 1726), (vs "fresh" 1727), (vs "next" 1728), (vs "found" 1729), (vs "rest" 1730), (vs "seq" 1731), (vs "kept" 1732), (vs "first" 1733)]
noncomputable def o1091 (P : Params) : Obj := tu []
noncomputable def o1092 (P : Params) : Obj := ob vn (fO (cS 91 6) "Assembly.merged" 0 vn vn vn vn vn)
noncomputable def o1093 (P : Params) : Obj := cO [(vs "merged" 1723), (vs "Assembly.merged" 1724), (vs "/claim/cut.py" 1725), (vi 788), (vi 3), (vi 0), (vi 0), (vi 3), (vr 1088), (.bool true), (vi 181), (vr 1089), vn, (vr 1090), (vr 1091), (vr 1092), (vi 1734), (vi 788), (vs "/claim/cut.py" 1735)]
noncomputable def o1094 (P : Params) : Obj := ob (vt "function") (fO (cS 91 6) "Assembly.merged" 3 vn vn vn (vs "thinstack.assembly" 1650) (vr 1093))
noncomputable def o1095 (P : Params) : Obj := tu []
noncomputable def o1096 (P : Params) : Obj := ob vn (fl [])
noncomputable def o1097 (P : Params) : Obj := tu [(vs "self" 1740), (vs "pieces" 1741), (vs "next" 1742), (vs "found" 1743), (vs "end" 1744), (vs "first" 1745), (vs "octets" 1746), (vs "seq" 1747), (vs "ahead" 1748)]
noncomputable def o1098 (P : Params) : Obj := tu []
noncomputable def o1099 (P : Params) : Obj := ob vn (fO (cS 91 7) "Assembly.joined" 0 vn vn vn vn vn)
noncomputable def o1100 (P : Params) : Obj := cO [(vs "joined" 1737), (vs "Assembly.joined" 1738), (vs "/claim/cut.py" 1739), (vi 797), (vi 3), (vi 0), (vi 0), (vi 3), (vr 1095), (.bool true), (vi 181), (vr 1096), vn, (vr 1097), (vr 1098), (vr 1099), (vi 1749), (vi 797), (vs "/claim/cut.py" 1750)]
noncomputable def o1101 (P : Params) : Obj := ob (vt "function") (fO (cS 91 7) "Assembly.joined" 3 vn vn vn (vs "thinstack.assembly" 1650) (vr 1100))
noncomputable def o1102 (P : Params) : Obj := tu []
noncomputable def o1103 (P : Params) : Obj := ob vn (fl [])
noncomputable def o1104 (P : Params) : Obj := tu [(vs "self" 1755), (vs "next" 1756), (vs "seq" 1757), (vs "octets" 1758), (vs "begin" 1759)]
noncomputable def o1105 (P : Params) : Obj := tu []
noncomputable def o1106 (P : Params) : Obj := ob vn (fO (cS 91 8) "Assembly.forget" 0 vn vn vn vn vn)
noncomputable def o1107 (P : Params) : Obj := cO [(vs "forget" 1752), (vs "Assembly.forget" 1753), (vs "/claim/cut.py" 1754), (vi 808), (vi 2), (vi 0), (vi 0), (vi 3), (vr 1102), (.bool true), (vi 181), (vr 1103), vn, (vr 1104), (vr 1105), (vr 1106), (vi 1760), (vi 808), (vs "/claim/cut.py" 1761)]
noncomputable def o1108 (P : Params) : Obj := ob (vt "function") (fO (cS 91 8) "Assembly.forget" 3 vn vn vn (vs "thinstack.assembly" 1650) (vr 1107))
noncomputable def o1109 (P : Params) : Obj := tu []
noncomputable def o1110 (P : Params) : Obj := ob vn (fl [])
noncomputable def o1111 (P : Params) : Obj := tu [(vs "self" 1766), (vs "next" 1767)]
noncomputable def o1112 (P : Params) : Obj := tu []
noncomputable def o1113 (P : Params) : Obj := ob vn (fO (cS 91 9) "Assembly.take" 0 vn vn vn vn vn)
noncomputable def o1114 (P : Params) : Obj := cO [(vs "take" 1763), (vs "Assembly.take" 1764), (vs "/claim/cut.py" 1765), (vi 819), (vi 2), (vi 0), (vi 0), (vi 3), (vr 1109), (.bool true), (vi 181), (vr 1110), vn, (vr 1111), (vr 1112), (vr 1113), (vi 1768), (vi 819), (vs "/claim/cut.py" 1769)]
noncomputable def o1115 (P : Params) : Obj := ob (vt "function") (fO (cS 91 9) "Assembly.take" 3 vn vn vn (vs "thinstack.assembly" 1650) (vr 1114))
noncomputable def o1116 (P : Params) : Obj := tu []
noncomputable def o1117 (P : Params) : Obj := ob vn (fl [])
noncomputable def o1118 (P : Params) : Obj := tu [(vs "self" 1774), (vs "next" 1775), (vs "found" 1776), (vs "at" 1777), (vs "seq" 1778), (vs "octets" 1779), (vs "missing" 1780)]
noncomputable def o1119 (P : Params) : Obj := tu []
noncomputable def o1120 (P : Params) : Obj := ob vn (fO (cS 91 10) "Assembly.holes" 0 vn vn vn vn vn)
noncomputable def o1121 (P : Params) : Obj := cO [(vs "holes" 1771), (vs "Assembly.holes" 1772), (vs "/claim/cut.py" 1773), (vi 825), (vi 2), (vi 0), (vi 0), (vi 3), (vr 1116), (.bool true), (vi 181), (vr 1117), vn, (vr 1118), (vr 1119), (vr 1120), (vi 1781), (vi 825), (vs "/claim/cut.py" 1782)]
noncomputable def o1122 (P : Params) : Obj := ob (vt "function") (fO (cS 91 10) "Assembly.holes" 3 vn vn vn (vs "thinstack.assembly" 1650) (vr 1121))
noncomputable def o1123 (P : Params) : Obj := tu []
noncomputable def o1124 (P : Params) : Obj := ob vn (fl [])
noncomputable def o1125 (P : Params) : Obj := tu [(vs "self" 1787), (vs "edge" 1788), (vs "next" 1789)]
noncomputable def o1126 (P : Params) : Obj := tu []
noncomputable def o1127 (P : Params) : Obj := ob vn (fO (cS 91 11) "Assembly.cut_behind" 0 vn vn vn vn vn)
noncomputable def o1128 (P : Params) : Obj := cO [(vs "cut_behind" 1784), (vs "Assembly.cut_behind" 1785), (vs "/claim/cut.py" 1786), (vi 834), (vi 3), (vi 0), (vi 0), (vi 3), (vr 1123), (.bool true), (vi 181), (vr 1124), vn, (vr 1125), (vr 1126), (vr 1127), (vi 1790), (vi 834), (vs "/claim/cut.py" 1791)]
noncomputable def o1129 (P : Params) : Obj := ob (vt "function") (fO (cS 91 11) "Assembly.cut_behind" 3 vn vn vn (vs "thinstack.assembly" 1650) (vr 1128))
noncomputable def o1130 (P : Params) : Obj := tu [(vs "parts" 1793), (vs "ring" 1794)]
noncomputable def o1131 (P : Params) : Obj := ob (vt "dict") (dc [(en P "__module__" 1659 (vs "thinstack.assembly" 1650)), (en P "__firstlineno__" 1663 (.int 744 1662)), (en P "__init__" 1671 (vr 1054)), (en P "size" 1677 (vr 1059)), (en P "is_empty" 1684 (vr 1066)), (en P "offset" 1693 (vr 1073)), (en P "put" 1705 (vr 1080)), (en P "missing" 1722 (vr 1087)), (en P "merged" 1736 (vr 1094)), (en P "joined" 1751 (vr 1101)), (en P "forget" 1762 (vr 1108)), (en P "take" 1770 (vr 1115)), (en P "holes" 1783 (vr 1122)), (en P "cut_behind" 1792 (vr 1129)), (en P "__static_attributes__" 1795 (vr 1130)), (en P "__dict__" 1797 (vr 1133)), (en P "__weakref__" 1799 (vr 1134)), (en P "__doc__" 1800 vn)] 4)
noncomputable def o1132 (P : Params) : Obj := (⟨(vt "type"), none, (.cls { name := ss "Assembly", bases := [(vt "object")], mro := [(vr 1132), (vt "object")], ns := 1131, qualname := ss "Assembly", hasDict := true, slotNames := [], subclasses := [], abstract := false, collection := none, hasDel := false }), #[none, none, some (vs "Assembly" 1652), some (vs "Assembly" 1660), some (vb "object.__new__"), some (.bool true)]⟩ : Obj)
noncomputable def o1133 (P : Params) : Obj := ob (vt "getset_descriptor") (fl [(vs "__dict__" 1796), (vr 1132), (vb "function.__dict__"), (vb "function.__dict__#set")])
noncomputable def o1134 (P : Params) : Obj := ob (vt "getset_descriptor") (fl [(vs "__weakref__" 1798), (vr 1132), (vb "ExceptionGroup.__weakref__"), vn])
noncomputable def o1135 (P : Params) : Obj := ob (vt "super") (fl [(vr 1132), (vr 1132), (vr 1132)])
noncomputable def o1136 (P : Params) : Obj := ob (vt "builtin_function_or_method") (fl [(vb "object.__init_subclass__"), (vr 1132)])
noncomputable def o1137 (P : Params) : Obj := tu []
noncomputable def o1138 (P : Params) : Obj := ob (vt "builtin_function_or_method") (fl [(vb "type.__prepare__"), (vt "type")])
noncomputable def o1139 (P : Params) : Obj := ob (vt "dict") (dc [(en P "__module__" 1812 (vs "thinstack.receiver" 1803)), (en P "__qualname__" 1814 (vs "Receiver" 1813)), (en P "__firstlineno__" 1816 (.int 837 1815)), (en P "__init__" 1828 (vr 1151)), (en P "free_edge" 1835 (vr 1158)), (en P "should_tell" 1843 (vr 1165)), (en P "told_window" 1850 (vr 1172)), (en P "window" 1857 (vr 1179)), (en P "arrive" 1867 (vr 1186)), (en P "let_in" 1876 (vr 1193)), (en P "note_fin" 1884 (vr 1200)), (en P "ahead_of_fin" 1893 (vr 1207)), (en P "gather" 1900 (vr 1214)), (en P "has_holes" 1907 (vr 1221)), (en P "available" 1914 (vr 1228)), (en P "read" 1923 (vr 1235)), (en P "is_over" 1930 (vr 1242)), (en P "read_place" 1938 (vr 1249)), (en P "urgent" 1946 (vr 1256)), (en P "urgent_left" 1953 (vr 1263)), (en P "__static_attributes__" 1964 (vr 1264))] 21)
noncomputable def o1140 (P : Params) : Obj := tu []
noncomputable def o1141 (P : Params) : Obj := ob vn (fl [(vi 839), (vi 4), (vr 1150), (vi 851), (vi 4), (vr 1157), (vi 854), (vi 4), (vr 1164), (vi 859), (vi 4), (vr 1171), (vi 864), (vi 4), (vr 1178), (vi 869), (vi 4), (vr 1185), (vi 872), (vi 4), (vr 1192), (vi 875), (vi 4), (vr 1199), (vi 878), (vi 4), (vr 1206), (vi 881), (vi 4), (vr 1213), (vi 884), (vi 4), (vr 1220), (vi 887), (vi 4), (vr 1227), (vi 890), (vi 4), (vr 1234), (vi 895), (vi 4), (vr 1241), (vi 898), (vi 4), (vr 1248), (vi 902), (vi 4), (vr 1255), (vi 907), (vi 4), (vr 1262)])
noncomputable def o1142 (P : Params) : Obj := cO [(vs "Receiver" 1807), (vs "Receiver" 1808), (vs "/claim/cut.py" 1809), (vi 837), (vi 0), (vi 0), (vi 0), (vi 0), (vr 1140), (.bool false), (vi 181), (vr 1141), vn, vn, vn, vn, (vi 1810), (vi 837), (vs "/claim/cut.py" 1811)]
noncomputable def o1143 (P : Params) : Obj := (⟨(vt "frame"), none, .plain, #[some (vr 1142), some (vr 3), some (vr 1139), none, some (vs "thinstack.receiver" 1803), none, some (vr 0)]⟩ : Obj)
noncomputable def o1144 (P : Params) : Obj := tu [(.int 1 1817)]
noncomputable def o1145 (P : Params) : Obj := tu []
noncomputable def o1146 (P : Params) : Obj := ob vn (fl [])
noncomputable def o1147 (P : Params) : Obj := tu [(vs "self" 1821), (vs "irs" 1822), (vs "ring" 1823), (vs "room" 1824), (vs "mss" 1825)]
noncomputable def o1148 (P : Params) : Obj := tu []
noncomputable def o1149 (P : Params) : Obj := ob vn (fO (cS 93 0) "Receiver.__init__" 0 vn vn vn vn vn)
noncomputable def o1150 (P : Params) : Obj := cO [(vs "__init__" 1818), (vs "Receiver.__init__" 1819), (vs "/claim/cut.py" 1820), (vi 839), (vi 5), (vi 0), (vi 0), (vi 3), (vr 1145), (.bool true), (vi 181), (vr 1146), vn, (vr 1147), (vr 1148), (vr 1149), (vi 1826), (vi 839), (vs "/claim/cut.py" 1827)]
noncomputable def o1151 (P : Params) : Obj := ob (vt "function") (fO (cS 93 0) "Receiver.__init__" 3 (vr 1144) vn vn (vs "thinstack.receiver" 1803) (vr 1150))
noncomputable def o1152 (P : Params) : Obj := tu []
noncomputable def o1153 (P : Params) : Obj := ob vn (fl [])
noncomputable def o1154 (P : Params) : Obj := tu [(vs "self" 1832)]
noncomputable def o1155 (P : Params) : Obj := tu []
noncomputable def o1156 (P : Params) : Obj := ob vn (fO (cS 93 1) "Receiver.free_edge" 0 vn vn vn vn vn)
noncomputable def o1157 (P : Params) : Obj := cO [(vs "free_edge" 1829), (vs "Receiver.free_edge" 1830), (vs "/claim/cut.py" 1831), (vi 851), (vi 1), (vi 0), (vi 0), (vi 3), (vr 1152), (.bool true), (vi 181), (vr 1153), vn, (vr 1154), (vr 1155), (vr 1156), (vi 1833), (vi 851), (vs "/claim/cut.py" 1834)]
noncomputable def o1158 (P : Params) : Obj := ob (vt "function") (fO (cS 93 1) "Receiver.free_edge" 3 vn vn vn (vs "thinstack.receiver" 1803) (vr 1157))
noncomputable def o1159 (P : Params) : Obj := tu []
noncomputable def o1160 (P : Params) : Obj := ob vn (fl [])
noncomputable def o1161 (P : Params) : Obj := tu [(vs "self" 1839), (vs "mss" 1840)]
noncomputable def o1162 (P : Params) : Obj := tu []
noncomputable def o1163 (P : Params) : Obj := ob vn (fO (cS 93 2) "Receiver.should_tell" 0 vn vn vn vn vn)
noncomputable def o1164 (P : Params) : Obj := cO [(vs "should_tell" 1836), (vs "Receiver.should_tell" 1837), (vs "/claim/cut.py" 1838), (vi 854), (vi 2), (vi 0), (vi 0), (vi 3), (vr 1159), (.bool true), (vi 181), (vr 1160), vn, (vr 1161), (vr 1162), (vr 1163), (vi 1841), (vi 854), (vs "/claim/cut.py" 1842)]
noncomputable def o1165 (P : Params) : Obj := ob (vt "function") (fO (cS 93 2) "Receiver.should_tell" 3 vn vn vn (vs "thinstack.receiver" 1803) (vr 1164))
noncomputable def o1166 (P : Params) : Obj := tu []
noncomputable def o1167 (P : Params) : Obj := ob vn (fl [])
noncomputable def o1168 (P : Params) : Obj := tu [(vs "self" 1847)]
noncomputable def o1169 (P : Params) : Obj := tu []
noncomputable def o1170 (P : Params) : Obj := ob vn (fO (cS 93 3) "Receiver.told_window" 0 vn vn vn vn vn)
noncomputable def o1171 (P : Params) : Obj := cO [(vs "told_window" 1844), (vs "Receiver.told_window" 1845), (vs "/claim/cut.py" 1846), (vi 859), (vi 1), (vi 0), (vi 0), (vi 3), (vr 1166), (.bool true), (vi 181), (vr 1167), vn, (vr 1168), (vr 1169), (vr 1170), (vi 1848), (vi 859), (vs "/claim/cut.py" 1849)]
noncomputable def o1172 (P : Params) : Obj := ob (vt "function") (fO (cS 93 3) "Receiver.told_window" 3 vn vn vn (vs "thinstack.receiver" 1803) (vr 1171))
noncomputable def o1173 (P : Params) : Obj := tu []
noncomputable def o1174 (P : Params) : Obj := ob vn (fl [])
noncomputable def o1175 (P : Params) : Obj := tu [(vs "self" 1854)]
noncomputable def o1176 (P : Params) : Obj := tu []
noncomputable def o1177 (P : Params) : Obj := ob vn (fO (cS 93 4) "Receiver.window" 0 vn vn vn vn vn)
noncomputable def o1178 (P : Params) : Obj := cO [(vs "window" 1851), (vs "Receiver.window" 1852), (vs "/claim/cut.py" 1853), (vi 864), (vi 1), (vi 0), (vi 0), (vi 3), (vr 1173), (.bool true), (vi 181), (vr 1174), vn, (vr 1175), (vr 1176), (vr 1177), (vi 1855), (vi 864), (vs "/claim/cut.py" 1856)]
noncomputable def o1179 (P : Params) : Obj := ob (vt "function") (fO (cS 93 4) "Receiver.window" 3 vn vn vn (vs "thinstack.receiver" 1803) (vr 1178))
noncomputable def o1180 (P : Params) : Obj := tu []
noncomputable def o1181 (P : Params) : Obj := ob vn (fl [])
noncomputable def o1182 (P : Params) : Obj := tu [(vs "self" 1861), (vs "seq" 1862), (vs "octets" 1863), (vs "has_fin" 1864)]
noncomputable def o1183 (P : Params) : Obj := tu []
noncomputable def o1184 (P : Params) : Obj := ob vn (fO (cS 93 5) "Receiver.arrive" 0 vn vn vn vn vn)
noncomputable def o1185 (P : Params) : Obj := cO [(vs "arrive" 1858), (vs "Receiver.arrive" 1859), (vs "/claim/cut.py" 1860), (vi 869), (vi 4), (vi 0), (vi 0), (vi 3), (vr 1180), (.bool true), (vi 181), (vr 1181), vn, (vr 1182), (vr 1183), (vr 1184), (vi 1865), (vi 869), (vs "/claim/cut.py" 1866)]
noncomputable def o1186 (P : Params) : Obj := ob (vt "function") (fO (cS 93 5) "Receiver.arrive" 3 vn vn vn (vs "thinstack.receiver" 1803) (vr 1185))
noncomputable def o1187 (P : Params) : Obj := tu []
noncomputable def o1188 (P : Params) : Obj := ob vn (fl [])
noncomputable def o1189 (P : Params) : Obj := tu [(vs "self" 1871), (vs "seq" 1872), (vs "octets" 1873)]
noncomputable def o1190 (P : Params) : Obj := tu []
noncomputable def o1191 (P : Params) : Obj := ob vn (fO (cS 93 6) "Receiver.let_in" 0 vn vn vn vn vn)
noncomputable def o1192 (P : Params) : Obj := cO [(vs "let_in" 1868), (vs "Receiver.let_in" 1869), (vs "/claim/cut.py" 1870), (vi 872), (vi 3), (vi 0), (vi 0), (vi 3), (vr 1187), (.bool true), (vi 181), (vr 1188), vn, (vr 1189), (vr 1190), (vr 1191), (vi 1874), (vi 872), (vs "/claim/cut.py" 1875)]
noncomputable def o1193 (P : Params) : Obj := ob (vt "function") (fO (cS 93 6) "Receiver.let_in" 3 vn vn vn (vs "thinstack.receiver" 1803) (vr 1192))
noncomputable def o1194 (P : Params) : Obj := tu []
noncomputable def o1195 (P : Params) : Obj := ob vn (fl [])
noncomputable def o1196 (P : Params) : Obj := tu [(vs "self" 1880), (vs "place" 1881)]
noncomputable def o1197 (P : Params) : Obj := tu []
noncomputable def o1198 (P : Params) : Obj := ob vn (fO (cS 93 7) "Receiver.note_fin" 0 vn vn vn vn vn)
noncomputable def o1199 (P : Params) : Obj := cO [(vs "note_fin" 1877), (vs "Receiver.note_fin" 1878), (vs "/claim/cut.py" 1879), (vi 875), (vi 2), (vi 0), (vi 0), (vi 3), (vr 1194), (.bool true), (vi 181), (vr 1195), vn, (vr 1196), (vr 1197), (vr 1198), (vi 1882), (vi 875), (vs "/claim/cut.py" 1883)]
noncomputable def o1200 (P : Params) : Obj := ob (vt "function") (fO (cS 93 7) "Receiver.note_fin" 3 vn vn vn (vs "thinstack.receiver" 1803) (vr 1199))
noncomputable def o1201 (P : Params) : Obj := tu []
noncomputable def o1202 (P : Params) : Obj := ob vn (fl [])
noncomputable def o1203 (P : Params) : Obj := tu [(vs "self" 1888), (vs "seq" 1889), (vs "octets" 1890)]
noncomputable def o1204 (P : Params) : Obj := tu []
noncomputable def o1205 (P : Params) : Obj := ob vn (fO (cS 93 8) "Receiver.ahead_of_fin" 0 vn vn vn vn vn)
noncomputable def o1206 (P : Params) : Obj := cO [(vs "ahead_of_fin" 1885), (vs "Receiver.ahead_of_fin" 1886), (vs "/claim/cut.py" 1887), (vi 878), (vi 3), (vi 0), (vi 0), (vi 3), (vr 1201), (.bool true), (vi 181), (vr 1202), vn, (vr 1203), (vr 1204), (vr 1205), (vi 1891), (vi 878), (vs "/claim/cut.py" 1892)]
noncomputable def o1207 (P : Params) : Obj := ob (vt "function") (fO (cS 93 8) "Receiver.ahead_of_fin" 3 vn vn vn (vs "thinstack.receiver" 1803) (vr 1206))
noncomputable def o1208 (P : Params) : Obj := tu []
noncomputable def o1209 (P : Params) : Obj := ob vn (fl [])
noncomputable def o1210 (P : Params) : Obj := tu [(vs "self" 1897)]
noncomputable def o1211 (P : Params) : Obj := tu []
noncomputable def o1212 (P : Params) : Obj := ob vn (fO (cS 93 9) "Receiver.gather" 0 vn vn vn vn vn)
noncomputable def o1213 (P : Params) : Obj := cO [(vs "gather" 1894), (vs "Receiver.gather" 1895), (vs "/claim/cut.py" 1896), (vi 881), (vi 1), (vi 0), (vi 0), (vi 3), (vr 1208), (.bool true), (vi 181), (vr 1209), vn, (vr 1210), (vr 1211), (vr 1212), (vi 1898), (vi 881), (vs "/claim/cut.py" 1899)]
noncomputable def o1214 (P : Params) : Obj := ob (vt "function") (fO (cS 93 9) "Receiver.gather" 3 vn vn vn (vs "thinstack.receiver" 1803) (vr 1213))
noncomputable def o1215 (P : Params) : Obj := tu []
noncomputable def o1216 (P : Params) : Obj := ob vn (fl [])
noncomputable def o1217 (P : Params) : Obj := tu [(vs "self" 1904)]
noncomputable def o1218 (P : Params) : Obj := tu []
noncomputable def o1219 (P : Params) : Obj := ob vn (fO (cS 93 10) "Receiver.has_holes" 0 vn vn vn vn vn)
noncomputable def o1220 (P : Params) : Obj := cO [(vs "has_holes" 1901), (vs "Receiver.has_holes" 1902), (vs "/claim/cut.py" 1903), (vi 884), (vi 1), (vi 0), (vi 0), (vi 3), (vr 1215), (.bool true), (vi 181), (vr 1216), vn, (vr 1217), (vr 1218), (vr 1219), (vi 1905), (vi 884), (vs "/claim/cut.py" 1906)]
noncomputable def o1221 (P : Params) : Obj := ob (vt "function") (fO (cS 93 10) "Receiver.has_holes" 3 vn vn vn (vs "thinstack.receiver" 1803) (vr 1220))
noncomputable def o1222 (P : Params) : Obj := tu []
noncomputable def o1223 (P : Params) : Obj := ob vn (fl [])
noncomputable def o1224 (P : Params) : Obj := tu [(vs "self" 1911)]
noncomputable def o1225 (P : Params) : Obj := tu []
noncomputable def o1226 (P : Params) : Obj := ob vn (fO (cS 93 11) "Receiver.available" 0 vn vn vn vn vn)
noncomputable def o1227 (P : Params) : Obj := cO [(vs "available" 1908), (vs "Receiver.available" 1909), (vs "/claim/cut.py" 1910), (vi 887), (vi 1), (vi 0), (vi 0), (vi 3), (vr 1222), (.bool true), (vi 181), (vr 1223), vn, (vr 1224), (vr 1225), (vr 1226), (vi 1912), (vi 887), (vs "/claim/cut.py" 1913)]
noncomputable def o1228 (P : Params) : Obj := ob (vt "function") (fO (cS 93 11) "Receiver.available" 3 vn vn vn (vs "thinstack.receiver" 1803) (vr 1227))
noncomputable def o1229 (P : Params) : Obj := tu []
noncomputable def o1230 (P : Params) : Obj := ob vn (fl [])
noncomputable def o1231 (P : Params) : Obj := tu [(vs "self" 1918), (vs "many" 1919), (vs "found" 1920)]
noncomputable def o1232 (P : Params) : Obj := tu []
noncomputable def o1233 (P : Params) : Obj := ob vn (fO (cS 93 12) "Receiver.read" 0 vn vn vn vn vn)
noncomputable def o1234 (P : Params) : Obj := cO [(vs "read" 1915), (vs "Receiver.read" 1916), (vs "/claim/cut.py" 1917), (vi 890), (vi 2), (vi 0), (vi 0), (vi 3), (vr 1229), (.bool true), (vi 181), (vr 1230), vn, (vr 1231), (vr 1232), (vr 1233), (vi 1921), (vi 890), (vs "/claim/cut.py" 1922)]
noncomputable def o1235 (P : Params) : Obj := ob (vt "function") (fO (cS 93 12) "Receiver.read" 3 vn vn vn (vs "thinstack.receiver" 1803) (vr 1234))
noncomputable def o1236 (P : Params) : Obj := tu []
noncomputable def o1237 (P : Params) : Obj := ob vn (fl [])
noncomputable def o1238 (P : Params) : Obj := tu [(vs "self" 1927)]
noncomputable def o1239 (P : Params) : Obj := tu []
noncomputable def o1240 (P : Params) : Obj := ob vn (fO (cS 93 13) "Receiver.is_over" 0 vn vn vn vn vn)
noncomputable def o1241 (P : Params) : Obj := cO [(vs "is_over" 1924), (vs "Receiver.is_over" 1925), (vs "/claim/cut.py" 1926), (vi 895), (vi 1), (vi 0), (vi 0), (vi 3), (vr 1236), (.bool true), (vi 181), (vr 1237), vn, (vr 1238), (vr 1239), (vr 1240), (vi 1928), (vi 895), (vs "/claim/cut.py" 1929)]
noncomputable def o1242 (P : Params) : Obj := ob (vt "function") (fO (cS 93 13) "Receiver.is_over" 3 vn vn vn (vs "thinstack.receiver" 1803) (vr 1241))
noncomputable def o1243 (P : Params) : Obj := tu []
noncomputable def o1244 (P : Params) : Obj := ob vn (fl [])
noncomputable def o1245 (P : Params) : Obj := tu [(vs "self" 1934), (vs "behind" 1935)]
noncomputable def o1246 (P : Params) : Obj := tu []
noncomputable def o1247 (P : Params) : Obj := ob vn (fO (cS 93 14) "Receiver.read_place" 0 vn vn vn vn vn)
noncomputable def o1248 (P : Params) : Obj := cO [(vs "read_place" 1931), (vs "Receiver.read_place" 1932), (vs "/claim/cut.py" 1933), (vi 898), (vi 1), (vi 0), (vi 0), (vi 3), (vr 1243), (.bool true), (vi 181), (vr 1244), vn, (vr 1245), (vr 1246), (vr 1247), (vi 1936), (vi 898), (vs "/claim/cut.py" 1937)]
noncomputable def o1249 (P : Params) : Obj := ob (vt "function") (fO (cS 93 14) "Receiver.read_place" 3 vn vn vn (vs "thinstack.receiver" 1803) (vr 1248))
noncomputable def o1250 (P : Params) : Obj := tu []
noncomputable def o1251 (P : Params) : Obj := ob vn (fl [])
noncomputable def o1252 (P : Params) : Obj := tu [(vs "self" 1942), (vs "pointer" 1943)]
noncomputable def o1253 (P : Params) : Obj := tu []
noncomputable def o1254 (P : Params) : Obj := ob vn (fO (cS 93 15) "Receiver.urgent" 0 vn vn vn vn vn)
noncomputable def o1255 (P : Params) : Obj := cO [(vs "urgent" 1939), (vs "Receiver.urgent" 1940), (vs "/claim/cut.py" 1941), (vi 902), (vi 2), (vi 0), (vi 0), (vi 3), (vr 1250), (.bool true), (vi 181), (vr 1251), vn, (vr 1252), (vr 1253), (vr 1254), (vi 1944), (vi 902), (vs "/claim/cut.py" 1945)]
noncomputable def o1256 (P : Params) : Obj := ob (vt "function") (fO (cS 93 15) "Receiver.urgent" 3 vn vn vn (vs "thinstack.receiver" 1803) (vr 1255))
noncomputable def o1257 (P : Params) : Obj := tu []
noncomputable def o1258 (P : Params) : Obj := ob vn (fl [])
noncomputable def o1259 (P : Params) : Obj := tu [(vs "self" 1950)]
noncomputable def o1260 (P : Params) : Obj := tu []
noncomputable def o1261 (P : Params) : Obj := ob vn (fO (cS 93 16) "Receiver.urgent_left" 0 vn vn vn vn vn)
noncomputable def o1262 (P : Params) : Obj := cO [(vs "urgent_left" 1947), (vs "Receiver.urgent_left" 1948), (vs "/claim/cut.py" 1949), (vi 907), (vi 1), (vi 0), (vi 0), (vi 3), (vr 1257), (.bool true), (vi 181), (vr 1258), vn, (vr 1259), (vr 1260), (vr 1261), (vi 1951), (vi 907), (vs "/claim/cut.py" 1952)]
noncomputable def o1263 (P : Params) : Obj := ob (vt "function") (fO (cS 93 16) "Receiver.urgent_left" 3 vn vn vn (vs "thinstack.receiver" 1803) (vr 1262))
noncomputable def o1264 (P : Params) : Obj := tu [(vs "assembly" 1954), (vs "fin_at" 1955), (vs "has_fin" 1956), (vs "mss" 1957), (vs "next" 1958), (vs "ready" 1959), (vs "ring" 1960), (vs "room" 1961), (vs "told_edge" 1962), (vs "urgent_at" 1963)]
noncomputable def o1265 (P : Params) : Obj := ob (vt "dict") (dc [(en P "__module__" 1812 (vs "thinstack.receiver" 1803)), (en P "__firstlineno__" 1816 (.int 837 1815)), (en P "__init__" 1828 (vr 1151)), (en P "free_edge" 1835 (vr 1158)), (en P "should_tell" 1843 (vr 1165)), (en P "told_window" 1850 (vr 1172)), (en P "window" 1857 (vr 1179)), (en P "arrive" 1867 (vr 1186)), (en P "let_in" 1876 (vr 1193)), (en P "note_fin" 1884 (vr 1200)), (en P "ahead_of_fin" 1893 (vr 1207)), (en P "gather" 1900 (vr 1214)), (en P "has_holes" 1907 (vr 1221)), (en P "available" 1914 (vr 1228)), (en P "read" 1923 (vr 1235)), (en P "is_over" 1930 (vr 1242)), (en P "read_place" 1938 (vr 1249)), (en P "urgent" 1946 (vr 1256)), (en P "urgent_left" 1953 (vr 1263)), (en P "__static_attributes__" 1964 (vr 1264)), (en P "__dict__" 1966 (vr 1267)), (en P "__weakref__" 1968 (vr 1268)), (en P "__doc__" 1969 vn)] 4)
noncomputable def o1266 (P : Params) : Obj := (⟨(vt "type"), none, (.cls { name := ss "Receiver", bases := [(vt "object")], mro := [(vr 1266), (vt "object")], ns := 1265, qualname := ss "Receiver", hasDict := true, slotNames := [], subclasses := [], abstract := false, collection := none, hasDel := false }), #[none, none, some (vs "Receiver" 1805), some (vs "Receiver" 1813), some (vb "object.__new__"), some (.bool true)]⟩ : Obj)
noncomputable def o1267 (P : Params) : Obj := ob (vt "getset_descriptor") (fl [(vs "__dict__" 1965), (vr 1266), (vb "function.__dict__"), (vb "function.__dict__#set")])
noncomputable def o1268 (P : Params) : Obj := ob (vt "getset_descriptor") (fl [(vs "__weakref__" 1967), (vr 1266), (vb "ExceptionGroup.__weakref__"), vn])
noncomputable def o1269 (P : Params) : Obj := ob (vt "super") (fl [(vr 1266), (vr 1266), (vr 1266)])
noncomputable def o1270 (P : Params) : Obj := ob (vt "builtin_function_or_method") (fl [(vb "object.__init_subclass__"), (vr 1266)])
noncomputable def o1271 (P : Params) : Obj := tu []
noncomputable def o1272 (P : Params) : Obj := ob vn (fl [])
noncomputable def o1273 (P : Params) : Obj := tu [(vs "script" 1977), (vs "cell" 1978), (vs "great" 1979)]
noncomputable def o1274 (P : Params) : Obj := tu []
noncomputable def o1275 (P : Params) : Obj := ob vn (fO (tS 95) "_law_pool" 0 vn vn vn vn vn)
noncomputable def o1276 (P : Params) : Obj := cO [(vs "_law_pool" 1974), (vs "_law_pool" 1975), (vs "/claim/cut.py" 1976), (vi 910), (vi 1), (vi 0), (vi 0), (vi 3), (vr 1271), (.bool true), (vi 181), (vr 1272), vn, (vr 1273), (vr 1274), (vr 1275), (vi 1980), (vi 910), (vs "/claim/cut.py" 1981)]
noncomputable def o1277 (P : Params) : Obj := ob (vt "function") (fO (tS 95) "_law_pool" 3 vn vn vn (vs "law_xw0354_01" 1972) (vr 1276))
noncomputable def o1278 (P : Params) : Obj := tu []
noncomputable def o1279 (P : Params) : Obj := ob vn (fl [])
noncomputable def o1280 (P : Params) : Obj := tu [(vs "source" 1986), (vs "top" 1987), (vs "drawn" 1988)]
noncomputable def o1281 (P : Params) : Obj := tu []
noncomputable def o1282 (P : Params) : Obj := ob vn (fO (tS 96) "_law_take" 0 vn vn vn vn vn)
noncomputable def o1283 (P : Params) : Obj := cO [(vs "_law_take" 1983), (vs "_law_take" 1984), (vs "/claim/cut.py" 1985), (vi 914), (vi 2), (vi 0), (vi 0), (vi 3), (vr 1278), (.bool true), (vi 181), (vr 1279), vn, (vr 1280), (vr 1281), (vr 1282), (vi 1989), (vi 914), (vs "/claim/cut.py" 1990)]
noncomputable def o1284 (P : Params) : Obj := ob (vt "function") (fO (tS 96) "_law_take" 3 vn vn vn (vs "law_xw0354_01" 1972) (vr 1283))
noncomputable def o1285 (P : Params) : Obj := tu []
noncomputable def o1286 (P : Params) : Obj := ob vn (fl [])
noncomputable def o1287 (P : Params) : Obj := tu [(vs "source" 1995), (vs "things" 1996)]
noncomputable def o1288 (P : Params) : Obj := tu []
noncomputable def o1289 (P : Params) : Obj := ob vn (fO (tS 97) "_law_one" 0 vn vn vn vn vn)
noncomputable def o1290 (P : Params) : Obj := cO [(vs "_law_one" 1992), (vs "_law_one" 1993), (vs "/claim/cut.py" 1994), (vi 921), (vi 2), (vi 0), (vi 0), (vi 3), (vr 1285), (.bool true), (vi 181), (vr 1286), vn, (vr 1287), (vr 1288), (vr 1289), (vi 1997), (vi 921), (vs "/claim/cut.py" 1998)]
noncomputable def o1291 (P : Params) : Obj := ob (vt "function") (fO (tS 97) "_law_one" 3 vn vn vn (vs "law_xw0354_01" 1972) (vr 1290))
noncomputable def o1292 (P : Params) : Obj := tu []
noncomputable def o1293 (P : Params) : Obj := ob vn (fl [])
noncomputable def o1294 (P : Params) : Obj := tu [(vs "ring" 2003), (vs "state" 2004), (vs "many" 2005), (vs "tcb" 2006), (vs "sender" 2007)]
noncomputable def o1295 (P : Params) : Obj := tu []
noncomputable def o1296 (P : Params) : Obj := ob vn (fO (tS 98) "_law_end" 0 vn vn vn vn vn)
noncomputable def o1297 (P : Params) : Obj := cO [(vs "_law_end" 2000), (vs "_law_end" 2001), (vs "/claim/cut.py" 2002), (vi 923), (vi 3), (vi 0), (vi 0), (vi 3), (vr 1292), (.bool true), (vi 181), (vr 1293), vn, (vr 1294), (vr 1295), (vr 1296), (vi 2008), (vi 923), (vs "/claim/cut.py" 2009)]
noncomputable def o1298 (P : Params) : Obj := ob (vt "function") (fO (tS 98) "_law_end" 3 vn vn vn (vs "law_xw0354_01" 1972) (vr 1297))
noncomputable def o1299 (P : Params) : Obj := tu []
noncomputable def o1300 (P : Params) : Obj := ob vn (fl [])
noncomputable def o1301 (P : Params) : Obj := tu [(vs "state" 2014)]
noncomputable def o1302 (P : Params) : Obj := tu []
noncomputable def o1303 (P : Params) : Obj := ob vn (fO (tS 99) "_law_has_fin" 0 vn vn vn vn vn)
noncomputable def o1304 (P : Params) : Obj := cO [(vs "_law_has_fin" 2011), (vs "_law_has_fin" 2012), (vs "/claim/cut.py" 2013), (vi 938), (vi 1), (vi 0), (vi 0), (vi 3), (vr 1299), (.bool true), (vi 181), (vr 1300), vn, (vr 1301), (vr 1302), (vr 1303), (vi 2015), (vi 938), (vs "/claim/cut.py" 2016)]
noncomputable def o1305 (P : Params) : Obj := ob (vt "function") (fO (tS 99) "_law_has_fin" 3 vn vn vn (vs "law_xw0354_01" 1972) (vr 1304))
noncomputable def o1306 (P : Params) : Obj := tu []
noncomputable def o1307 (P : Params) : Obj := ob vn (fl [])
noncomputable def o1308 (P : Params) : Obj := tu [(vs "state" 2021), (vs "is_ended" 2022), (vs "has_fin" 2023), (vs "found" 2024)]
noncomputable def o1309 (P : Params) : Obj := tu []
noncomputable def o1310 (P : Params) : Obj := ob vn (fO (tS 100) "_law_later" 0 vn vn vn vn vn)
noncomputable def o1311 (P : Params) : Obj := cO [(vs "_law_later" 2018), (vs "_law_later" 2019), (vs "/claim/cut.py" 2020), (vi 940), (vi 3), (vi 0), (vi 0), (vi 3), (vr 1306), (.bool true), (vi 181), (vr 1307), vn, (vr 1308), (vr 1309), (vr 1310), (vi 2025), (vi 940), (vs "/claim/cut.py" 2026)]
noncomputable def o1312 (P : Params) : Obj := ob (vt "function") (fO (tS 100) "_law_later" 3 vn vn vn (vs "law_xw0354_01" 1972) (vr 1311))
noncomputable def o1313 (P : Params) : Obj := tu []
noncomputable def o1314 (P : Params) : Obj := ob vn (fl [])
noncomputable def o1315 (P : Params) : Obj := tu [(vs "told" 2031), (vs "far" 2032), (vs "near" 2033), (vs "gone" 2034), (vs "is_taken" 2035)]
noncomputable def o1316 (P : Params) : Obj := tu []
noncomputable def o1317 (P : Params) : Obj := ob vn (fO (tS 101) "_law_window" 0 vn vn vn vn vn)
noncomputable def o1318 (P : Params) : Obj := cO [(vs "_law_window" 2028), (vs "_law_window" 2029), (vs "/claim/cut.py" 2030), (vi 945), (vi 5), (vi 0), (vi 0), (vi 3), (vr 1313), (.bool true), (vi 181), (vr 1314), vn, (vr 1315), (vr 1316), (vr 1317), (vi 2036), (vi 945), (vs "/claim/cut.py" 2037)]
noncomputable def o1319 (P : Params) : Obj := ob (vt "function") (fO (tS 101) "_law_window" 3 vn vn vn (vs "law_xw0354_01" 1972) (vr 1318))
noncomputable def o1320 (P : Params) : Obj := tu []
noncomputable def o1321 (P : Params) : Obj := ob vn (fl [])
noncomputable def o1322 (P : Params) : Obj := ob vn (fO (tS 102) "_law_row_right" 0 vn vn vn vn vn)
noncomputable def o1323 (P : Params) : Obj := cO [(vs "_law_row_right" 2039), (vs "_law_row_right" 2040), (vs "/claim/cut.py" 2041), (vi 949), (vi 5), (vi 0), (vi 0), (vi 3), (vr 1320), (.bool true), (vi 181), (vr 1321), vn, vn, vn, (vr 1322), (vi 2042), (vi 949), (vs "/claim/cut.py" 2043)]
noncomputable def o1324 (P : Params) : Obj := ob (vt "function") (fO (tS 102) "_law_row_right" 3 vn vn vn (vs "law_xw0354_01" 1972) (vr 1323))
noncomputable def o1325 (P : Params) : Obj := tu []
noncomputable def o1326 (P : Params) : Obj := ob vn (fl [])
noncomputable def o1327 (P : Params) : Obj := tu [(vs "ring" 2048), (vs "state" 2049), (vs "many" 2050), (vs "row" 2051), (vs "kept" 2052), (vs "tcb" 2053)]
noncomputable def o1328 (P : Params) : Obj := tu []
noncomputable def o1329 (P : Params) : Obj := ob vn (fO (tS 103) "_law_state_right" 0 vn vn vn vn vn)
noncomputable def o1330 (P : Params) : Obj := cO [(vs "_law_state_right" 2045), (vs "_law_state_right" 2046), (vs "/claim/cut.py" 2047), (vi 970), (vi 4), (vi 0), (vi 0), (vi 3), (vr 1325), (.bool true), (vi 181), (vr 1326), vn, (vr 1327), (vr 1328), (vr 1329), (vi 2054), (vi 970), (vs "/claim/cut.py" 2055)]
noncomputable def o1331 (P : Params) : Obj := ob (vt "function") (fO (tS 103) "_law_state_right" 3 vn vn vn (vs "law_xw0354_01" 1972) (vr 1330))
noncomputable def o1332 (P : Params) : Obj := tu []
noncomputable def o1333 (P : Params) : Obj := ob vn (fl [])
noncomputable def o1334 (P : Params) : Obj := ob vn (fO (tS 104) "_law_thrice_right" 0 vn vn vn vn vn)
noncomputable def o1335 (P : Params) : Obj := cO [(vs "_law_thrice_right" 2057), (vs "_law_thrice_right" 2058), (vs "/claim/cut.py" 2059), (vi 976), (vi 1), (vi 0), (vi 0), (vi 3), (vr 1332), (.bool true), (vi 181), (vr 1333), vn, vn, vn, (vr 1334), (vi 2060), (vi 976), (vs "/claim/cut.py" 2061)]
noncomputable def o1336 (P : Params) : Obj := ob (vt "function") (fO (tS 104) "_law_thrice_right" 3 vn vn vn (vs "law_xw0354_01" 1972) (vr 1335))
noncomputable def o1337 (P : Params) : Obj := tu []
noncomputable def o1338 (P : Params) : Obj := ob vn (fl [])
noncomputable def o1339 (P : Params) : Obj := tu [(vs "script" 2066), (vs "source" 2067), (vs "ring" 2068), (vs "state" 2069), (vs "states" 2070), (vs "many" 2071), (vs "flags" 2072), (vs "far" 2073), (vs "row" 2074)]
noncomputable def o1340 (P : Params) : Obj := tu []
noncomputable def o1341 (P : Params) : Obj := ob vn (fO (tS 105) "law" 0 vn vn vn vn vn)
noncomputable def o1342 (P : Params) : Obj := cO [(vs "law" 2063), (vs "law" 2064), (vs "/claim/cut.py" 2065), (vi 986), (vi 1), (vi 0), (vi 0), (vi 3), (vr 1337), (.bool true), (vi 181), (vr 1338), vn, (vr 1339), (vr 1340), (vr 1341), (vi 2075), (vi 986), (vs "/claim/cut.py" 2076)]
noncomputable def o1343 (P : Params) : Obj := ob (vt "function") (fO (tS 105) "law" 3 vn vn vn (vs "law_xw0354_01" 1972) (vr 1342))
noncomputable def tz_32_31 (P : Params) : BT := (.node (o31 P) (.node (o63 P) (.node (o127 P) (.node (o255 P) (.node (o511 P) (.node (o1023 P) .nil .nil) .nil) (.node (o767 P) (.node (o1279 P) .nil .nil) .nil)) (.node (o383 P) (.node (o639 P) (.node (o1151 P) .nil .nil) .nil) (.node (o895 P) .nil .nil))) (.node (o191 P) (.node (o319 P) (.node (o575 P) (.node (o1087 P) .nil .nil) .nil) (.node (o831 P) (.node (o1343 P) .nil .nil) .nil)) (.node (o447 P) (.node (o703 P) (.node (o1215 P) .nil .nil) .nil) (.node (o959 P) .nil .nil)))) (.node (o95 P) (.node (o159 P) (.node (o287 P) (.node (o543 P) (.node (o1055 P) .nil .nil) .nil) (.node (o799 P) (.node (o1311 P) .nil .nil) .nil)) (.node (o415 P) (.node (o671 P) (.node (o1183 P) .nil .nil) .nil) (.node (o927 P) .nil .nil))) (.node (o223 P) (.node (o351 P) (.node (o607 P) (.node (o1119 P) .nil .nil) .nil) (.node (o863 P) .nil .nil)) (.node (o479 P) (.node (o735 P) (.node (o1247 P) .nil .nil) .nil) (.node (o991 P) .nil .nil)))))
noncomputable def tz_32_47 (P : Params) : BT := (.node (o47 P) (.node (o79 P) (.node (o143 P) (.node (o271 P) (.node (o527 P) (.node (o1039 P) .nil .nil) .nil) (.node (o783 P) (.node (o1295 P) .nil .nil) .nil)) (.node (o399 P) (.node (o655 P) (.node (o1167 P) .nil .nil) .nil) (.node (o911 P) .nil .nil))) (.node (o207 P) (.node (o335 P) (.node (o591 P) (.node (o1103 P) .nil .nil) .nil) (.node (o847 P) .nil .nil)) (.node (o463 P) (.node (o719 P) (.node (o1231 P) .nil .nil) .nil) (.node (o975 P) .nil .nil)))) (.node (o111 P) (.node (o175 P) (.node (o303 P) (.node (o559 P) (.node (o1071 P) .nil .nil) .nil) (.node (o815 P) (.node (o1327 P) .nil .nil) .nil)) (.node (o431 P) (.node (o687 P) (.node (o1199 P) .nil .nil) .nil) (.node (o943 P) .nil .nil))) (.node (o239 P) (.node (o367 P) (.node (o623 P) (.node (o1135 P) .nil .nil) .nil) (.node (o879 P) .nil .nil)) (.node (o495 P) (.node (o751 P) (.node (o1263 P) .nil .nil) .nil) (.node (o1007 P) .nil .nil)))))
noncomputable def tz_32_39 (P : Params) : BT := (.node (o39 P) (.node (o71 P) (.node (o135 P) (.node (o263 P) (.node (o519 P) (.node (o1031 P) .nil .nil) .nil) (.node (o775 P) (.node (o1287 P) .nil .nil) .nil)) (.node (o391 P) (.node (o647 P) (.node (o1159 P) .nil .nil) .nil) (.node (o903 P) .nil .nil))) (.node (o199 P) (.node (o327 P) (.node (o583 P) (.node (o1095 P) .nil .nil) .nil) (.node (o839 P) .nil .nil)) (.node (o455 P) (.node (o711 P) (.node (o1223 P) .nil .nil) .nil) (.node (o967 P) .nil .nil)))) (.node (o103 P) (.node (o167 P) (.node (o295 P) (.node (o551 P) (.node (o1063 P) .nil .nil) .nil) (.node (o807 P) (.node (o1319 P) .nil .nil) .nil)) (.node (o423 P) (.node (o679 P) (.node (o1191 P) .nil .nil) .nil) (.node (o935 P) .nil .nil))) (.node (o231 P) (.node (o359 P) (.node (o615 P) (.node (o1127 P) .nil .nil) .nil) (.node (o871 P) .nil .nil)) (.node (o487 P) (.node (o743 P) (.node (o1255 P) .nil .nil) .nil) (.node (o999 P) .nil .nil)))))
noncomputable def tz_32_55 (P : Params) : BT := (.node (o55 P) (.node (o87 P) (.node (o151 P) (.node (o279 P) (.node (o535 P) (.node (o1047 P) .nil .nil) .nil) (.node (o791 P) (.node (o1303 P) .nil .nil) .nil)) (.node (o407 P) (.node (o663 P) (.node (o1175 P) .nil .nil) .nil) (.node (o919 P) .nil .nil))) (.node (o215 P) (.node (o343 P) (.node (o599 P) (.node (o1111 P) .nil .nil) .nil) (.node (o855 P) .nil .nil)) (.node (o471 P) (.node (o727 P) (.node (o1239 P) .nil .nil) .nil) (.node (o983 P) .nil .nil)))) (.node (o119 P) (.node (o183 P) (.node (o311 P) (.node (o567 P) (.node (o1079 P) .nil .nil) .nil) (.node (o823 P) (.node (o1335 P) .nil .nil) .nil)) (.node (o439 P) (.node (o695 P) (.node (o1207 P) .nil .nil) .nil) (.node (o951 P) .nil .nil))) (.node (o247 P) (.node (o375 P) (.node (o631 P) (.node (o1143 P) .nil .nil) .nil) (.node (o887 P) .nil .nil)) (.node (o503 P) (.node (o759 P) (.node (o1271 P) .nil .nil) .nil) (.node (o1015 P) .nil .nil)))))
noncomputable def tz_32_35 (P : Params) : BT := (.node (o35 P) (.node (o67 P) (.node (o131 P) (.node (o259 P) (.node (o515 P) (.node (o1027 P) .nil .nil) .nil) (.node (o771 P) (.node (o1283 P) .nil .nil) .nil)) (.node (o387 P) (.node (o643 P) (.node (o1155 P) .nil .nil) .nil) (.node (o899 P) .nil .nil))) (.node (o195 P) (.node (o323 P) (.node (o579 P) (.node (o1091 P) .nil .nil) .nil) (.node (o835 P) .nil .nil)) (.node (o451 P) (.node (o707 P) (.node (o1219 P) .nil .nil) .nil) (.node (o963 P) .nil .nil)))) (.node (o99 P) (.node (o163 P) (.node (o291 P) (.node (o547 P) (.node (o1059 P) .nil .nil) .nil) (.node (o803 P) (.node (o1315 P) .nil .nil) .nil)) (.node (o419 P) (.node (o675 P) (.node (o1187 P) .nil .nil) .nil) (.node (o931 P) .nil .nil))) (.node (o227 P) (.node (o355 P) (.node (o611 P) (.node (o1123 P) .nil .nil) .nil) (.node (o867 P) .nil .nil)) (.node (o483 P) (.node (o739 P) (.node (o1251 P) .nil .nil) .nil) (.node (o995 P) .nil .nil)))))
noncomputable def tz_32_51 (P : Params) : BT := (.node (o51 P) (.node (o83 P) (.node (o147 P) (.node (o275 P) (.node (o531 P) (.node (o1043 P) .nil .nil) .nil) (.node (o787 P) (.node (o1299 P) .nil .nil) .nil)) (.node (o403 P) (.node (o659 P) (.node (o1171 P) .nil .nil) .nil) (.node (o915 P) .nil .nil))) (.node (o211 P) (.node (o339 P) (.node (o595 P) (.node (o1107 P) .nil .nil) .nil) (.node (o851 P) .nil .nil)) (.node (o467 P) (.node (o723 P) (.node (o1235 P) .nil .nil) .nil) (.node (o979 P) .nil .nil)))) (.node (o115 P) (.node (o179 P) (.node (o307 P) (.node (o563 P) (.node (o1075 P) .nil .nil) .nil) (.node (o819 P) (.node (o1331 P) .nil .nil) .nil)) (.node (o435 P) (.node (o691 P) (.node (o1203 P) .nil .nil) .nil) (.node (o947 P) .nil .nil))) (.node (o243 P) (.node (o371 P) (.node (o627 P) (.node (o1139 P) .nil .nil) .nil) (.node (o883 P) .nil .nil)) (.node (o499 P) (.node (o755 P) (.node (o1267 P) .nil .nil) .nil) (.node (o1011 P) .nil .nil)))))
noncomputable def tz_32_43 (P : Params) : BT := (.node (o43 P) (.node (o75 P) (.node (o139 P) (.node (o267 P) (.node (o523 P) (.node (o1035 P) .nil .nil) .nil) (.node (o779 P) (.node (o1291 P) .nil .nil) .nil)) (.node (o395 P) (.node (o651 P) (.node (o1163 P) .nil .nil) .nil) (.node (o907 P) .nil .nil))) (.node (o203 P) (.node (o331 P) (.node (o587 P) (.node (o1099 P) .nil .nil) .nil) (.node (o843 P) .nil .nil)) (.node (o459 P) (.node (o715 P) (.node (o1227 P) .nil .nil) .nil) (.node (o971 P) .nil .nil)))) (.node (o107 P) (.node (o171 P) (.node (o299 P) (.node (o555 P) (.node (o1067 P) .nil .nil) .nil) (.node (o811 P) (.node (o1323 P) .nil .nil) .nil)) (.node (o427 P) (.node (o683 P) (.node (o1195 P) .nil .nil) .nil) (.node (o939 P) .nil .nil))) (.node (o235 P) (.node (o363 P) (.node (o619 P) (.node (o1131 P) .nil .nil) .nil) (.node (o875 P) .nil .nil)) (.node (o491 P) (.node (o747 P) (.node (o1259 P) .nil .nil) .nil) (.node (o1003 P) .nil .nil)))))
noncomputable def tz_32_59 (P : Params) : BT := (.node (o59 P) (.node (o91 P) (.node (o155 P) (.node (o283 P) (.node (o539 P) (.node (o1051 P) .nil .nil) .nil) (.node (o795 P) (.node (o1307 P) .nil .nil) .nil)) (.node (o411 P) (.node (o667 P) (.node (o1179 P) .nil .nil) .nil) (.node (o923 P) .nil .nil))) (.node (o219 P) (.node (o347 P) (.node (o603 P) (.node (o1115 P) .nil .nil) .nil) (.node (o859 P) .nil .nil)) (.node (o475 P) (.node (o731 P) (.node (o1243 P) .nil .nil) .nil) (.node (o987 P) .nil .nil)))) (.node (o123 P) (.node (o187 P) (.node (o315 P) (.node (o571 P) (.node (o1083 P) .nil .nil) .nil) (.node (o827 P) (.node (o1339 P) .nil .nil) .nil)) (.node (o443 P) (.node (o699 P) (.node (o1211 P) .nil .nil) .nil) (.node (o955 P) .nil .nil))) (.node (o251 P) (.node (o379 P) (.node (o635 P) (.node (o1147 P) .nil .nil) .nil) (.node (o891 P) .nil .nil)) (.node (o507 P) (.node (o763 P) (.node (o1275 P) .nil .nil) .nil) (.node (o1019 P) .nil .nil)))))
noncomputable def tz_32_33 (P : Params) : BT := (.node (o33 P) (.node (o65 P) (.node (o129 P) (.node (o257 P) (.node (o513 P) (.node (o1025 P) .nil .nil) .nil) (.node (o769 P) (.node (o1281 P) .nil .nil) .nil)) (.node (o385 P) (.node (o641 P) (.node (o1153 P) .nil .nil) .nil) (.node (o897 P) .nil .nil))) (.node (o193 P) (.node (o321 P) (.node (o577 P) (.node (o1089 P) .nil .nil) .nil) (.node (o833 P) .nil .nil)) (.node (o449 P) (.node (o705 P) (.node (o1217 P) .nil .nil) .nil) (.node (o961 P) .nil .nil)))) (.node (o97 P) (.node (o161 P) (.node (o289 P) (.node (o545 P) (.node (o1057 P) .nil .nil) .nil) (.node (o801 P) (.node (o1313 P) .nil .nil) .nil)) (.node (o417 P) (.node (o673 P) (.node (o1185 P) .nil .nil) .nil) (.node (o929 P) .nil .nil))) (.node (o225 P) (.node (o353 P) (.node (o609 P) (.node (o1121 P) .nil .nil) .nil) (.node (o865 P) .nil .nil)) (.node (o481 P) (.node (o737 P) (.node (o1249 P) .nil .nil) .nil) (.node (o993 P) .nil .nil)))))
noncomputable def tz_32_49 (P : Params) : BT := (.node (o49 P) (.node (o81 P) (.node (o145 P) (.node (o273 P) (.node (o529 P) (.node (o1041 P) .nil .nil) .nil) (.node (o785 P) (.node (o1297 P) .nil .nil) .nil)) (.node (o401 P) (.node (o657 P) (.node (o1169 P) .nil .nil) .nil) (.node (o913 P) .nil .nil))) (.node (o209 P) (.node (o337 P) (.node (o593 P) (.node (o1105 P) .nil .nil) .nil) (.node (o849 P) .nil .nil)) (.node (o465 P) (.node (o721 P) (.node (o1233 P) .nil .nil) .nil) (.node (o977 P) .nil .nil)))) (.node (o113 P) (.node (o177 P) (.node (o305 P) (.node (o561 P) (.node (o1073 P) .nil .nil) .nil) (.node (o817 P) (.node (o1329 P) .nil .nil) .nil)) (.node (o433 P) (.node (o689 P) (.node (o1201 P) .nil .nil) .nil) (.node (o945 P) .nil .nil))) (.node (o241 P) (.node (o369 P) (.node (o625 P) (.node (o1137 P) .nil .nil) .nil) (.node (o881 P) .nil .nil)) (.node (o497 P) (.node (o753 P) (.node (o1265 P) .nil .nil) .nil) (.node (o1009 P) .nil .nil)))))
noncomputable def tz_32_41 (P : Params) : BT := (.node (o41 P) (.node (o73 P) (.node (o137 P) (.node (o265 P) (.node (o521 P) (.node (o1033 P) .nil .nil) .nil) (.node (o777 P) (.node (o1289 P) .nil .nil) .nil)) (.node (o393 P) (.node (o649 P) (.node (o1161 P) .nil .nil) .nil) (.node (o905 P) .nil .nil))) (.node (o201 P) (.node (o329 P) (.node (o585 P) (.node (o1097 P) .nil .nil) .nil) (.node (o841 P) .nil .nil)) (.node (o457 P) (.node (o713 P) (.node (o1225 P) .nil .nil) .nil) (.node (o969 P) .nil .nil)))) (.node (o105 P) (.node (o169 P) (.node (o297 P) (.node (o553 P) (.node (o1065 P) .nil .nil) .nil) (.node (o809 P) (.node (o1321 P) .nil .nil) .nil)) (.node (o425 P) (.node (o681 P) (.node (o1193 P) .nil .nil) .nil) (.node (o937 P) .nil .nil))) (.node (o233 P) (.node (o361 P) (.node (o617 P) (.node (o1129 P) .nil .nil) .nil) (.node (o873 P) .nil .nil)) (.node (o489 P) (.node (o745 P) (.node (o1257 P) .nil .nil) .nil) (.node (o1001 P) .nil .nil)))))
noncomputable def tz_32_57 (P : Params) : BT := (.node (o57 P) (.node (o89 P) (.node (o153 P) (.node (o281 P) (.node (o537 P) (.node (o1049 P) .nil .nil) .nil) (.node (o793 P) (.node (o1305 P) .nil .nil) .nil)) (.node (o409 P) (.node (o665 P) (.node (o1177 P) .nil .nil) .nil) (.node (o921 P) .nil .nil))) (.node (o217 P) (.node (o345 P) (.node (o601 P) (.node (o1113 P) .nil .nil) .nil) (.node (o857 P) .nil .nil)) (.node (o473 P) (.node (o729 P) (.node (o1241 P) .nil .nil) .nil) (.node (o985 P) .nil .nil)))) (.node (o121 P) (.node (o185 P) (.node (o313 P) (.node (o569 P) (.node (o1081 P) .nil .nil) .nil) (.node (o825 P) (.node (o1337 P) .nil .nil) .nil)) (.node (o441 P) (.node (o697 P) (.node (o1209 P) .nil .nil) .nil) (.node (o953 P) .nil .nil))) (.node (o249 P) (.node (o377 P) (.node (o633 P) (.node (o1145 P) .nil .nil) .nil) (.node (o889 P) .nil .nil)) (.node (o505 P) (.node (o761 P) (.node (o1273 P) .nil .nil) .nil) (.node (o1017 P) .nil .nil)))))
noncomputable def tz_32_37 (P : Params) : BT := (.node (o37 P) (.node (o69 P) (.node (o133 P) (.node (o261 P) (.node (o517 P) (.node (o1029 P) .nil .nil) .nil) (.node (o773 P) (.node (o1285 P) .nil .nil) .nil)) (.node (o389 P) (.node (o645 P) (.node (o1157 P) .nil .nil) .nil) (.node (o901 P) .nil .nil))) (.node (o197 P) (.node (o325 P) (.node (o581 P) (.node (o1093 P) .nil .nil) .nil) (.node (o837 P) .nil .nil)) (.node (o453 P) (.node (o709 P) (.node (o1221 P) .nil .nil) .nil) (.node (o965 P) .nil .nil)))) (.node (o101 P) (.node (o165 P) (.node (o293 P) (.node (o549 P) (.node (o1061 P) .nil .nil) .nil) (.node (o805 P) (.node (o1317 P) .nil .nil) .nil)) (.node (o421 P) (.node (o677 P) (.node (o1189 P) .nil .nil) .nil) (.node (o933 P) .nil .nil))) (.node (o229 P) (.node (o357 P) (.node (o613 P) (.node (o1125 P) .nil .nil) .nil) (.node (o869 P) .nil .nil)) (.node (o485 P) (.node (o741 P) (.node (o1253 P) .nil .nil) .nil) (.node (o997 P) .nil .nil)))))
noncomputable def tz_32_53 (P : Params) : BT := (.node (o53 P) (.node (o85 P) (.node (o149 P) (.node (o277 P) (.node (o533 P) (.node (o1045 P) .nil .nil) .nil) (.node (o789 P) (.node (o1301 P) .nil .nil) .nil)) (.node (o405 P) (.node (o661 P) (.node (o1173 P) .nil .nil) .nil) (.node (o917 P) .nil .nil))) (.node (o213 P) (.node (o341 P) (.node (o597 P) (.node (o1109 P) .nil .nil) .nil) (.node (o853 P) .nil .nil)) (.node (o469 P) (.node (o725 P) (.node (o1237 P) .nil .nil) .nil) (.node (o981 P) .nil .nil)))) (.node (o117 P) (.node (o181 P) (.node (o309 P) (.node (o565 P) (.node (o1077 P) .nil .nil) .nil) (.node (o821 P) (.node (o1333 P) .nil .nil) .nil)) (.node (o437 P) (.node (o693 P) (.node (o1205 P) .nil .nil) .nil) (.node (o949 P) .nil .nil))) (.node (o245 P) (.node (o373 P) (.node (o629 P) (.node (o1141 P) .nil .nil) .nil) (.node (o885 P) .nil .nil)) (.node (o501 P) (.node (o757 P) (.node (o1269 P) .nil .nil) .nil) (.node (o1013 P) .nil .nil)))))
noncomputable def tz_32_45 (P : Params) : BT := (.node (o45 P) (.node (o77 P) (.node (o141 P) (.node (o269 P) (.node (o525 P) (.node (o1037 P) .nil .nil) .nil) (.node (o781 P) (.node (o1293 P) .nil .nil) .nil)) (.node (o397 P) (.node (o653 P) (.node (o1165 P) .nil .nil) .nil) (.node (o909 P) .nil .nil))) (.node (o205 P) (.node (o333 P) (.node (o589 P) (.node (o1101 P) .nil .nil) .nil) (.node (o845 P) .nil .nil)) (.node (o461 P) (.node (o717 P) (.node (o1229 P) .nil .nil) .nil) (.node (o973 P) .nil .nil)))) (.node (o109 P) (.node (o173 P) (.node (o301 P) (.node (o557 P) (.node (o1069 P) .nil .nil) .nil) (.node (o813 P) (.node (o1325 P) .nil .nil) .nil)) (.node (o429 P) (.node (o685 P) (.node (o1197 P) .nil .nil) .nil) (.node (o941 P) .nil .nil))) (.node (o237 P) (.node (o365 P) (.node (o621 P) (.node (o1133 P) .nil .nil) .nil) (.node (o877 P) .nil .nil)) (.node (o493 P) (.node (o749 P) (.node (o1261 P) .nil .nil) .nil) (.node (o1005 P) .nil .nil)))))
noncomputable def tz_32_61 (P : Params) : BT := (.node (o61 P) (.node (o93 P) (.node (o157 P) (.node (o285 P) (.node (o541 P) (.node (o1053 P) .nil .nil) .nil) (.node (o797 P) (.node (o1309 P) .nil .nil) .nil)) (.node (o413 P) (.node (o669 P) (.node (o1181 P) .nil .nil) .nil) (.node (o925 P) .nil .nil))) (.node (o221 P) (.node (o349 P) (.node (o605 P) (.node (o1117 P) .nil .nil) .nil) (.node (o861 P) .nil .nil)) (.node (o477 P) (.node (o733 P) (.node (o1245 P) .nil .nil) .nil) (.node (o989 P) .nil .nil)))) (.node (o125 P) (.node (o189 P) (.node (o317 P) (.node (o573 P) (.node (o1085 P) .nil .nil) .nil) (.node (o829 P) (.node (o1341 P) .nil .nil) .nil)) (.node (o445 P) (.node (o701 P) (.node (o1213 P) .nil .nil) .nil) (.node (o957 P) .nil .nil))) (.node (o253 P) (.node (o381 P) (.node (o637 P) (.node (o1149 P) .nil .nil) .nil) (.node (o893 P) .nil .nil)) (.node (o509 P) (.node (o765 P) (.node (o1277 P) .nil .nil) .nil) (.node (o1021 P) .nil .nil)))))
noncomputable def tz_32_32 (P : Params) : BT := (.node (o32 P) (.node (o64 P) (.node (o128 P) (.node (o256 P) (.node (o512 P) (.node (o1024 P) .nil .nil) .nil) (.node (o768 P) (.node (o1280 P) .nil .nil) .nil)) (.node (o384 P) (.node (o640 P) (.node (o1152 P) .nil .nil) .nil) (.node (o896 P) .nil .nil))) (.node (o192 P) (.node (o320 P) (.node (o576 P) (.node (o1088 P) .nil .nil) .nil) (.node (o832 P) .nil .nil)) (.node (o448 P) (.node (o704 P) (.node (o1216 P) .nil .nil) .nil) (.node (o960 P) .nil .nil)))) (.node (o96 P) (.node (o160 P) (.node (o288 P) (.node (o544 P) (.node (o1056 P) .nil .nil) .nil) (.node (o800 P) (.node (o1312 P) .nil .nil) .nil)) (.node (o416 P) (.node (o672 P) (.node (o1184 P) .nil .nil) .nil) (.node (o928 P) .nil .nil))) (.node (o224 P) (.node (o352 P) (.node (o608 P) (.node (o1120 P) .nil .nil) .nil) (.node (o864 P) .nil .nil)) (.node (o480 P) (.node (o736 P) (.node (o1248 P) .nil .nil) .nil) (.node (o992 P) .nil .nil)))))
noncomputable def tz_32_48 (P : Params) : BT := (.node (o48 P) (.node (o80 P) (.node (o144 P) (.node (o272 P) (.node (o528 P) (.node (o1040 P) .nil .nil) .nil) (.node (o784 P) (.node (o1296 P) .nil .nil) .nil)) (.node (o400 P) (.node (o656 P) (.node (o1168 P) .nil .nil) .nil) (.node (o912 P) .nil .nil))) (.node (o208 P) (.node (o336 P) (.node (o592 P) (.node (o1104 P) .nil .nil) .nil) (.node (o848 P) .nil .nil)) (.node (o464 P) (.node (o720 P) (.node (o1232 P) .nil .nil) .nil) (.node (o976 P) .nil .nil)))) (.node (o112 P) (.node (o176 P) (.node (o304 P) (.node (o560 P) (.node (o1072 P) .nil .nil) .nil) (.node (o816 P) (.node (o1328 P) .nil .nil) .nil)) (.node (o432 P) (.node (o688 P) (.node (o1200 P) .nil .nil) .nil) (.node (o944 P) .nil .nil))) (.node (o240 P) (.node (o368 P) (.node (o624 P) (.node (o1136 P) .nil .nil) .nil) (.node (o880 P) .nil .nil)) (.node (o496 P) (.node (o752 P) (.node (o1264 P) .nil .nil) .nil) (.node (o1008 P) .nil .nil)))))
noncomputable def tz_32_40 (P : Params) : BT := (.node (o40 P) (.node (o72 P) (.node (o136 P) (.node (o264 P) (.node (o520 P) (.node (o1032 P) .nil .nil) .nil) (.node (o776 P) (.node (o1288 P) .nil .nil) .nil)) (.node (o392 P) (.node (o648 P) (.node (o1160 P) .nil .nil) .nil) (.node (o904 P) .nil .nil))) (.node (o200 P) (.node (o328 P) (.node (o584 P) (.node (o1096 P) .nil .nil) .nil) (.node (o840 P) .nil .nil)) (.node (o456 P) (.node (o712 P) (.node (o1224 P) .nil .nil) .nil) (.node (o968 P) .nil .nil)))) (.node (o104 P) (.node (o168 P) (.node (o296 P) (.node (o552 P) (.node (o1064 P) .nil .nil) .nil) (.node (o808 P) (.node (o1320 P) .nil .nil) .nil)) (.node (o424 P) (.node (o680 P) (.node (o1192 P) .nil .nil) .nil) (.node (o936 P) .nil .nil))) (.node (o232 P) (.node (o360 P) (.node (o616 P) (.node (o1128 P) .nil .nil) .nil) (.node (o872 P) .nil .nil)) (.node (o488 P) (.node (o744 P) (.node (o1256 P) .nil .nil) .nil) (.node (o1000 P) .nil .nil)))))
noncomputable def tz_32_56 (P : Params) : BT := (.node (o56 P) (.node (o88 P) (.node (o152 P) (.node (o280 P) (.node (o536 P) (.node (o1048 P) .nil .nil) .nil) (.node (o792 P) (.node (o1304 P) .nil .nil) .nil)) (.node (o408 P) (.node (o664 P) (.node (o1176 P) .nil .nil) .nil) (.node (o920 P) .nil .nil))) (.node (o216 P) (.node (o344 P) (.node (o600 P) (.node (o1112 P) .nil .nil) .nil) (.node (o856 P) .nil .nil)) (.node (o472 P) (.node (o728 P) (.node (o1240 P) .nil .nil) .nil) (.node (o984 P) .nil .nil)))) (.node (o120 P) (.node (o184 P) (.node (o312 P) (.node (o568 P) (.node (o1080 P) .nil .nil) .nil) (.node (o824 P) (.node (o1336 P) .nil .nil) .nil)) (.node (o440 P) (.node (o696 P) (.node (o1208 P) .nil .nil) .nil) (.node (o952 P) .nil .nil))) (.node (o248 P) (.node (o376 P) (.node (o632 P) (.node (o1144 P) .nil .nil) .nil) (.node (o888 P) .nil .nil)) (.node (o504 P) (.node (o760 P) (.node (o1272 P) .nil .nil) .nil) (.node (o1016 P) .nil .nil)))))
noncomputable def tz_32_36 (P : Params) : BT := (.node (o36 P) (.node (o68 P) (.node (o132 P) (.node (o260 P) (.node (o516 P) (.node (o1028 P) .nil .nil) .nil) (.node (o772 P) (.node (o1284 P) .nil .nil) .nil)) (.node (o388 P) (.node (o644 P) (.node (o1156 P) .nil .nil) .nil) (.node (o900 P) .nil .nil))) (.node (o196 P) (.node (o324 P) (.node (o580 P) (.node (o1092 P) .nil .nil) .nil) (.node (o836 P) .nil .nil)) (.node (o452 P) (.node (o708 P) (.node (o1220 P) .nil .nil) .nil) (.node (o964 P) .nil .nil)))) (.node (o100 P) (.node (o164 P) (.node (o292 P) (.node (o548 P) (.node (o1060 P) .nil .nil) .nil) (.node (o804 P) (.node (o1316 P) .nil .nil) .nil)) (.node (o420 P) (.node (o676 P) (.node (o1188 P) .nil .nil) .nil) (.node (o932 P) .nil .nil))) (.node (o228 P) (.node (o356 P) (.node (o612 P) (.node (o1124 P) .nil .nil) .nil) (.node (o868 P) .nil .nil)) (.node (o484 P) (.node (o740 P) (.node (o1252 P) .nil .nil) .nil) (.node (o996 P) .nil .nil)))))
noncomputable def tz_32_52 (P : Params) : BT := (.node (o52 P) (.node (o84 P) (.node (o148 P) (.node (o276 P) (.node (o532 P) (.node (o1044 P) .nil .nil) .nil) (.node (o788 P) (.node (o1300 P) .nil .nil) .nil)) (.node (o404 P) (.node (o660 P) (.node (o1172 P) .nil .nil) .nil) (.node (o916 P) .nil .nil))) (.node (o212 P) (.node (o340 P) (.node (o596 P) (.node (o1108 P) .nil .nil) .nil) (.node (o852 P) .nil .nil)) (.node (o468 P) (.node (o724 P) (.node (o1236 P) .nil .nil) .nil) (.node (o980 P) .nil .nil)))) (.node (o116 P) (.node (o180 P) (.node (o308 P) (.node (o564 P) (.node (o1076 P) .nil .nil) .nil) (.node (o820 P) (.node (o1332 P) .nil .nil) .nil)) (.node (o436 P) (.node (o692 P) (.node (o1204 P) .nil .nil) .nil) (.node (o948 P) .nil .nil))) (.node (o244 P) (.node (o372 P) (.node (o628 P) (.node (o1140 P) .nil .nil) .nil) (.node (o884 P) .nil .nil)) (.node (o500 P) (.node (o756 P) (.node (o1268 P) .nil .nil) .nil) (.node (o1012 P) .nil .nil)))))
noncomputable def tz_32_44 (P : Params) : BT := (.node (o44 P) (.node (o76 P) (.node (o140 P) (.node (o268 P) (.node (o524 P) (.node (o1036 P) .nil .nil) .nil) (.node (o780 P) (.node (o1292 P) .nil .nil) .nil)) (.node (o396 P) (.node (o652 P) (.node (o1164 P) .nil .nil) .nil) (.node (o908 P) .nil .nil))) (.node (o204 P) (.node (o332 P) (.node (o588 P) (.node (o1100 P) .nil .nil) .nil) (.node (o844 P) .nil .nil)) (.node (o460 P) (.node (o716 P) (.node (o1228 P) .nil .nil) .nil) (.node (o972 P) .nil .nil)))) (.node (o108 P) (.node (o172 P) (.node (o300 P) (.node (o556 P) (.node (o1068 P) .nil .nil) .nil) (.node (o812 P) (.node (o1324 P) .nil .nil) .nil)) (.node (o428 P) (.node (o684 P) (.node (o1196 P) .nil .nil) .nil) (.node (o940 P) .nil .nil))) (.node (o236 P) (.node (o364 P) (.node (o620 P) (.node (o1132 P) .nil .nil) .nil) (.node (o876 P) .nil .nil)) (.node (o492 P) (.node (o748 P) (.node (o1260 P) .nil .nil) .nil) (.node (o1004 P) .nil .nil)))))
noncomputable def tz_32_60 (P : Params) : BT := (.node (o60 P) (.node (o92 P) (.node (o156 P) (.node (o284 P) (.node (o540 P) (.node (o1052 P) .nil .nil) .nil) (.node (o796 P) (.node (o1308 P) .nil .nil) .nil)) (.node (o412 P) (.node (o668 P) (.node (o1180 P) .nil .nil) .nil) (.node (o924 P) .nil .nil))) (.node (o220 P) (.node (o348 P) (.node (o604 P) (.node (o1116 P) .nil .nil) .nil) (.node (o860 P) .nil .nil)) (.node (o476 P) (.node (o732 P) (.node (o1244 P) .nil .nil) .nil) (.node (o988 P) .nil .nil)))) (.node (o124 P) (.node (o188 P) (.node (o316 P) (.node (o572 P) (.node (o1084 P) .nil .nil) .nil) (.node (o828 P) (.node (o1340 P) .nil .nil) .nil)) (.node (o444 P) (.node (o700 P) (.node (o1212 P) .nil .nil) .nil) (.node (o956 P) .nil .nil))) (.node (o252 P) (.node (o380 P) (.node (o636 P) (.node (o1148 P) .nil .nil) .nil) (.node (o892 P) .nil .nil)) (.node (o508 P) (.node (o764 P) (.node (o1276 P) .nil .nil) .nil) (.node (o1020 P) .nil .nil)))))
noncomputable def tz_32_34 (P : Params) : BT := (.node (o34 P) (.node (o66 P) (.node (o130 P) (.node (o258 P) (.node (o514 P) (.node (o1026 P) .nil .nil) .nil) (.node (o770 P) (.node (o1282 P) .nil .nil) .nil)) (.node (o386 P) (.node (o642 P) (.node (o1154 P) .nil .nil) .nil) (.node (o898 P) .nil .nil))) (.node (o194 P) (.node (o322 P) (.node (o578 P) (.node (o1090 P) .nil .nil) .nil) (.node (o834 P) .nil .nil)) (.node (o450 P) (.node (o706 P) (.node (o1218 P) .nil .nil) .nil) (.node (o962 P) .nil .nil)))) (.node (o98 P) (.node (o162 P) (.node (o290 P) (.node (o546 P) (.node (o1058 P) .nil .nil) .nil) (.node (o802 P) (.node (o1314 P) .nil .nil) .nil)) (.node (o418 P) (.node (o674 P) (.node (o1186 P) .nil .nil) .nil) (.node (o930 P) .nil .nil))) (.node (o226 P) (.node (o354 P) (.node (o610 P) (.node (o1122 P) .nil .nil) .nil) (.node (o866 P) .nil .nil)) (.node (o482 P) (.node (o738 P) (.node (o1250 P) .nil .nil) .nil) (.node (o994 P) .nil .nil)))))
noncomputable def tz_32_50 (P : Params) : BT := (.node (o50 P) (.node (o82 P) (.node (o146 P) (.node (o274 P) (.node (o530 P) (.node (o1042 P) .nil .nil) .nil) (.node (o786 P) (.node (o1298 P) .nil .nil) .nil)) (.node (o402 P) (.node (o658 P) (.node (o1170 P) .nil .nil) .nil) (.node (o914 P) .nil .nil))) (.node (o210 P) (.node (o338 P) (.node (o594 P) (.node (o1106 P) .nil .nil) .nil) (.node (o850 P) .nil .nil)) (.node (o466 P) (.node (o722 P) (.node (o1234 P) .nil .nil) .nil) (.node (o978 P) .nil .nil)))) (.node (o114 P) (.node (o178 P) (.node (o306 P) (.node (o562 P) (.node (o1074 P) .nil .nil) .nil) (.node (o818 P) (.node (o1330 P) .nil .nil) .nil)) (.node (o434 P) (.node (o690 P) (.node (o1202 P) .nil .nil) .nil) (.node (o946 P) .nil .nil))) (.node (o242 P) (.node (o370 P) (.node (o626 P) (.node (o1138 P) .nil .nil) .nil) (.node (o882 P) .nil .nil)) (.node (o498 P) (.node (o754 P) (.node (o1266 P) .nil .nil) .nil) (.node (o1010 P) .nil .nil)))))
noncomputable def tz_32_42 (P : Params) : BT := (.node (o42 P) (.node (o74 P) (.node (o138 P) (.node (o266 P) (.node (o522 P) (.node (o1034 P) .nil .nil) .nil) (.node (o778 P) (.node (o1290 P) .nil .nil) .nil)) (.node (o394 P) (.node (o650 P) (.node (o1162 P) .nil .nil) .nil) (.node (o906 P) .nil .nil))) (.node (o202 P) (.node (o330 P) (.node (o586 P) (.node (o1098 P) .nil .nil) .nil) (.node (o842 P) .nil .nil)) (.node (o458 P) (.node (o714 P) (.node (o1226 P) .nil .nil) .nil) (.node (o970 P) .nil .nil)))) (.node (o106 P) (.node (o170 P) (.node (o298 P) (.node (o554 P) (.node (o1066 P) .nil .nil) .nil) (.node (o810 P) (.node (o1322 P) .nil .nil) .nil)) (.node (o426 P) (.node (o682 P) (.node (o1194 P) .nil .nil) .nil) (.node (o938 P) .nil .nil))) (.node (o234 P) (.node (o362 P) (.node (o618 P) (.node (o1130 P) .nil .nil) .nil) (.node (o874 P) .nil .nil)) (.node (o490 P) (.node (o746 P) (.node (o1258 P) .nil .nil) .nil) (.node (o1002 P) .nil .nil)))))
noncomputable def tz_32_58 (P : Params) : BT := (.node (o58 P) (.node (o90 P) (.node (o154 P) (.node (o282 P) (.node (o538 P) (.node (o1050 P) .nil .nil) .nil) (.node (o794 P) (.node (o1306 P) .nil .nil) .nil)) (.node (o410 P) (.node (o666 P) (.node (o1178 P) .nil .nil) .nil) (.node (o922 P) .nil .nil))) (.node (o218 P) (.node (o346 P) (.node (o602 P) (.node (o1114 P) .nil .nil) .nil) (.node (o858 P) .nil .nil)) (.node (o474 P) (.node (o730 P) (.node (o1242 P) .nil .nil) .nil) (.node (o986 P) .nil .nil)))) (.node (o122 P) (.node (o186 P) (.node (o314 P) (.node (o570 P) (.node (o1082 P) .nil .nil) .nil) (.node (o826 P) (.node (o1338 P) .nil .nil) .nil)) (.node (o442 P) (.node (o698 P) (.node (o1210 P) .nil .nil) .nil) (.node (o954 P) .nil .nil))) (.node (o250 P) (.node (o378 P) (.node (o634 P) (.node (o1146 P) .nil .nil) .nil) (.node (o890 P) .nil .nil)) (.node (o506 P) (.node (o762 P) (.node (o1274 P) .nil .nil) .nil) (.node (o1018 P) .nil .nil)))))
noncomputable def tz_32_38 (P : Params) : BT := (.node (o38 P) (.node (o70 P) (.node (o134 P) (.node (o262 P) (.node (o518 P) (.node (o1030 P) .nil .nil) .nil) (.node (o774 P) (.node (o1286 P) .nil .nil) .nil)) (.node (o390 P) (.node (o646 P) (.node (o1158 P) .nil .nil) .nil) (.node (o902 P) .nil .nil))) (.node (o198 P) (.node (o326 P) (.node (o582 P) (.node (o1094 P) .nil .nil) .nil) (.node (o838 P) .nil .nil)) (.node (o454 P) (.node (o710 P) (.node (o1222 P) .nil .nil) .nil) (.node (o966 P) .nil .nil)))) (.node (o102 P) (.node (o166 P) (.node (o294 P) (.node (o550 P) (.node (o1062 P) .nil .nil) .nil) (.node (o806 P) (.node (o1318 P) .nil .nil) .nil)) (.node (o422 P) (.node (o678 P) (.node (o1190 P) .nil .nil) .nil) (.node (o934 P) .nil .nil))) (.node (o230 P) (.node (o358 P) (.node (o614 P) (.node (o1126 P) .nil .nil) .nil) (.node (o870 P) .nil .nil)) (.node (o486 P) (.node (o742 P) (.node (o1254 P) .nil .nil) .nil) (.node (o998 P) .nil .nil)))))
noncomputable def tz_32_54 (P : Params) : BT := (.node (o54 P) (.node (o86 P) (.node (o150 P) (.node (o278 P) (.node (o534 P) (.node (o1046 P) .nil .nil) .nil) (.node (o790 P) (.node (o1302 P) .nil .nil) .nil)) (.node (o406 P) (.node (o662 P) (.node (o1174 P) .nil .nil) .nil) (.node (o918 P) .nil .nil))) (.node (o214 P) (.node (o342 P) (.node (o598 P) (.node (o1110 P) .nil .nil) .nil) (.node (o854 P) .nil .nil)) (.node (o470 P) (.node (o726 P) (.node (o1238 P) .nil .nil) .nil) (.node (o982 P) .nil .nil)))) (.node (o118 P) (.node (o182 P) (.node (o310 P) (.node (o566 P) (.node (o1078 P) .nil .nil) .nil) (.node (o822 P) (.node (o1334 P) .nil .nil) .nil)) (.node (o438 P) (.node (o694 P) (.node (o1206 P) .nil .nil) .nil) (.node (o950 P) .nil .nil))) (.node (o246 P) (.node (o374 P) (.node (o630 P) (.node (o1142 P) .nil .nil) .nil) (.node (o886 P) .nil .nil)) (.node (o502 P) (.node (o758 P) (.node (o1270 P) .nil .nil) .nil) (.node (o1014 P) .nil .nil)))))
noncomputable def tz_32_46 (P : Params) : BT := (.node (o46 P) (.node (o78 P) (.node (o142 P) (.node (o270 P) (.node (o526 P) (.node (o1038 P) .nil .nil) .nil) (.node (o782 P) (.node (o1294 P) .nil .nil) .nil)) (.node (o398 P) (.node (o654 P) (.node (o1166 P) .nil .nil) .nil) (.node (o910 P) .nil .nil))) (.node (o206 P) (.node (o334 P) (.node (o590 P) (.node (o1102 P) .nil .nil) .nil) (.node (o846 P) .nil .nil)) (.node (o462 P) (.node (o718 P) (.node (o1230 P) .nil .nil) .nil) (.node (o974 P) .nil .nil)))) (.node (o110 P) (.node (o174 P) (.node (o302 P) (.node (o558 P) (.node (o1070 P) .nil .nil) .nil) (.node (o814 P) (.node (o1326 P) .nil .nil) .nil)) (.node (o430 P) (.node (o686 P) (.node (o1198 P) .nil .nil) .nil) (.node (o942 P) .nil .nil))) (.node (o238 P) (.node (o366 P) (.node (o622 P) (.node (o1134 P) .nil .nil) .nil) (.node (o878 P) .nil .nil)) (.node (o494 P) (.node (o750 P) (.node (o1262 P) .nil .nil) .nil) (.node (o1006 P) .nil .nil)))))
noncomputable def tz_32_62 (P : Params) : BT := (.node (o62 P) (.node (o94 P) (.node (o158 P) (.node (o286 P) (.node (o542 P) (.node (o1054 P) .nil .nil) .nil) (.node (o798 P) (.node (o1310 P) .nil .nil) .nil)) (.node (o414 P) (.node (o670 P) (.node (o1182 P) .nil .nil) .nil) (.node (o926 P) .nil .nil))) (.node (o222 P) (.node (o350 P) (.node (o606 P) (.node (o1118 P) .nil .nil) .nil) (.node (o862 P) .nil .nil)) (.node (o478 P) (.node (o734 P) (.node (o1246 P) .nil .nil) .nil) (.node (o990 P) .nil .nil)))) (.node (o126 P) (.node (o190 P) (.node (o318 P) (.node (o574 P) (.node (o1086 P) .nil .nil) .nil) (.node (o830 P) (.node (o1342 P) .nil .nil) .nil)) (.node (o446 P) (.node (o702 P) (.node (o1214 P) .nil .nil) .nil) (.node (o958 P) .nil .nil))) (.node (o254 P) (.node (o382 P) (.node (o638 P) (.node (o1150 P) .nil .nil) .nil) (.node (o894 P) .nil .nil)) (.node (o510 P) (.node (o766 P) (.node (o1278 P) .nil .nil) .nil) (.node (o1022 P) .nil .nil)))))
noncomputable def tz (P : Params) : BT := (.node (o0 P) (.node (o1 P) (.node (o3 P) (.node (o7 P) (.node (o15 P) (tz_32_31 P) (tz_32_47 P)) (.node (o23 P) (tz_32_39 P) (tz_32_55 P))) (.node (o11 P) (.node (o19 P) (tz_32_35 P) (tz_32_51 P)) (.node (o27 P) (tz_32_43 P) (tz_32_59 P)))) (.node (o5 P) (.node (o9 P) (.node (o17 P) (tz_32_33 P) (tz_32_49 P)) (.node (o25 P) (tz_32_41 P) (tz_32_57 P))) (.node (o13 P) (.node (o21 P) (tz_32_37 P) (tz_32_53 P)) (.node (o29 P) (tz_32_45 P) (tz_32_61 P))))) (.node (o2 P) (.node (o4 P) (.node (o8 P) (.node (o16 P) (tz_32_32 P) (tz_32_48 P)) (.node (o24 P) (tz_32_40 P) (tz_32_56 P))) (.node (o12 P) (.node (o20 P) (tz_32_36 P) (tz_32_52 P)) (.node (o28 P) (tz_32_44 P) (tz_32_60 P)))) (.node (o6 P) (.node (o10 P) (.node (o18 P) (tz_32_34 P) (tz_32_50 P)) (.node (o26 P) (tz_32_42 P) (tz_32_58 P))) (.node (o14 P) (.node (o22 P) (tz_32_38 P) (tz_32_54 P)) (.node (o30 P) (tz_32_46 P) (tz_32_62 P))))))
noncomputable def prune (n : Nat) (t : BT) : Nat → Nat → BT := @BT.rec (fun _ => Nat → Nat → BT) (fun _ _ => .nil)
 (fun v _ _ l r a b => @Bool.rec (fun _ => BT) .nil (.node v (l (Nat.mul 2 a) (Nat.add a b)) (r (Nat.mul 2 a) (Nat.add (Nat.mul 2 a) b))) (Nat.blt b n)) t
noncomputable def lay (i : Nat) (o : Obj) (t : BT) : BT := BT.set t i fun _ => o
noncomputable def x0_2 (P : Params) : Obj := ob vn (dc [] 0)
noncomputable def tr0 (P : Params) : BT := lay 3 (g3 P ((en P "__name__" 165 (vs "__main__" 164))) 8 9) (lay 12 (g12 0) (lay 2 (x0_2 P) (prune 15 (tz P) 1 0)))
noncomputable def S0 (w : World) (os : OsState) : SharedT := ⟨tr0 w.params, 15, {}, #[], ⟨0, 0, 0, 0⟩, 187, os⟩
noncomputable def ps0 : Pos := ⟨0, 0, 0, 0⟩
noncomputable def x1_2 (P : Params) : Obj := ob vn (dc [] 0)
noncomputable def tr1 (P : Params) : BT := lay 3 (g3 P ((en P "__name__" 165 (vs "thinstack.errors" 242))) 14 15) (lay 12 (g12 18) (lay 2 (x1_2 P) (prune 57 (tz P) 1 0)))
noncomputable def S1 (w : World) (os : OsState) : SharedT := ⟨tr1 w.params, 57, {}, #[], ⟨0, 0, 0, 0⟩, 244, os⟩
noncomputable def ps1 : Pos := ⟨16, 0, 16, 8⟩
noncomputable def x2_73 (P : Params) : Obj := (⟨(vt "type"), none, (.cls { name := ss "StackError", bases := [(vt "Exception")], mro := [(vr 73), (vt "Exception"), (vt "BaseException"), (vt "object")], ns := 72, qualname := ss "StackError", hasDict := true, slotNames := [], subclasses := [], abstract := false, collection := none, hasDel := false }), #[some (vr 57), none, some (vs "StackError" 244), some (vs "StackError" 252), some (vb "Exception.__new__"), some (.bool true)]⟩ : Obj)
noncomputable def tr2 (P : Params) : BT := lay 3 (g3 P ((en P "__name__" 165 (vs "thinstack.errors" 242))) 15 16) (lay 12 (g12 21) (lay 73 (x2_73 P) (prune 77 (tz P) 1 0)))
noncomputable def S2 (w : World) (os : OsState) : SharedT := ⟨tr2 w.params, 77, {}, #[], ⟨0, 0, 0, 0⟩, 273, os⟩
noncomputable def ps2 : Pos := ⟨17, 0, 20, 30⟩
noncomputable def x3_73 (P : Params) : Obj := (⟨(vt "type"), none, (.cls { name := ss "StackError", bases := [(vt "Exception")], mro := [(vr 73), (vt "Exception"), (vt "BaseException"), (vt "object")], ns := 72, qualname := ss "StackError", hasDict := true, slotNames := [], subclasses := [(vr 86)], abstract := false, collection := none, hasDel := false }), #[some (vr 57), none, some (vs "StackError" 244), some (vs "StackError" 252), some (vb "Exception.__new__"), some (.bool true)]⟩ : Obj)
noncomputable def tr3 (P : Params) : BT := lay 3 (g3 P ((en P "__name__" 165 (vs "thinstack.errors" 242))) 16 17) (lay 12 (g12 24) (lay 73 (x3_73 P) (prune 89 (tz P) 1 0)))
noncomputable def S3 (w : World) (os : OsState) : SharedT := ⟨tr3 w.params, 89, {}, #[], ⟨0, 0, 0, 0⟩, 289, os⟩
noncomputable def ps3 : Pos := ⟨21, 0, 22, 8⟩
noncomputable def tr4 (P : Params) : BT := lay 3 (g3 P ((en P "__name__" 165 (vs "thinstack.tcp_segment" 314))) 25 26) (lay 12 (g12 30) (prune 108 (tz P) 1 0))
noncomputable def S4 (w : World) (os : OsState) : SharedT := ⟨tr4 w.params, 108, {}, #[], ⟨0, 0, 0, 0⟩, 330, os⟩
noncomputable def ps4 : Pos := ⟨35, 0, 35, 8⟩
noncomputable def tr5 (P : Params) : BT := lay 3 (g3 P ((en P "__name__" 165 (vs "thinstack.tcp_segment" 314))) 28 29) (lay 12 (g12 39) (prune 165 (tz P) 1 0))
noncomputable def S5 (w : World) (os : OsState) : SharedT := ⟨tr5 w.params, 165, {}, #[], ⟨0, 0, 0, 0⟩, 417, os⟩
noncomputable def ps5 : Pos := ⟨66, 0, 68, 51⟩
noncomputable def tr6 (P : Params) : BT := lay 3 (g3 P ((en P "__name__" 165 (vs "thinstack.acks" 476))) 44 45) (lay 12 (g12 54) (prune 200 (tz P) 1 0))
noncomputable def S6 (w : World) (os : OsState) : SharedT := ⟨tr6 w.params, 200, {}, #[], ⟨0, 0, 0, 0⟩, 478, os⟩
noncomputable def ps6 : Pos := ⟨98, 0, 98, 8⟩
noncomputable def tr7 (P : Params) : BT := lay 3 (g3 P ((en P "__name__" 165 (vs "thinstack.congestion" 549))) 45 46) (lay 12 (g12 57) (prune 257 (tz P) 1 0))
noncomputable def S7 (w : World) (os : OsState) : SharedT := ⟨tr7 w.params, 257, {}, #[], ⟨0, 0, 0, 0⟩, 551, os⟩
noncomputable def ps7 : Pos := ⟨122, 0, 122, 8⟩
noncomputable def tr8 (P : Params) : BT := lay 3 (g3 P ((en P "__name__" 165 (vs "thinstack.congestion" 549))) 46 47) (lay 12 (g12 57) (prune 257 (tz P) 1 0))
noncomputable def S8 (w : World) (os : OsState) : SharedT := ⟨tr8 w.params, 257, {}, #[], ⟨0, 0, 0, 0⟩, 553, os⟩
noncomputable def ps8 : Pos := ⟨123, 0, 123, 10⟩
noncomputable def tr9 (P : Params) : BT := lay 3 (g3 P ((en P "__name__" 165 (vs "thinstack.congestion" 549))) 47 48) (lay 12 (g12 60) (prune 348 (tz P) 1 0))
noncomputable def S9 (w : World) (os : OsState) : SharedT := ⟨tr9 w.params, 348, {}, #[], ⟨0, 0, 0, 0⟩, 671, os⟩
noncomputable def ps9 : Pos := ⟨124, 0, 195, 16⟩
noncomputable def tr10 (P : Params) : BT := lay 3 (g3 P ((en P "__name__" 165 (vs "thinstack.retransmit" 671))) 48 49) (lay 12 (g12 60) (prune 348 (tz P) 1 0))
noncomputable def S10 (w : World) (os : OsState) : SharedT := ⟨tr10 w.params, 348, {}, #[], ⟨0, 0, 0, 0⟩, 675, os⟩
noncomputable def ps10 : Pos := ⟨197, 0, 197, 21⟩
noncomputable def tr11 (P : Params) : BT := lay 3 (g3 P ((en P "__name__" 165 (vs "thinstack.retransmit" 671))) 49 50) (lay 12 (g12 63) (prune 425 (tz P) 1 0))
noncomputable def S11 (w : World) (os : OsState) : SharedT := ⟨tr11 w.params, 425, {}, #[], ⟨0, 0, 0, 0⟩, 774, os⟩
noncomputable def ps11 : Pos := ⟨198, 0, 240, 34⟩
noncomputable def tr12 (P : Params) : BT := lay 3 (g3 P ((en P "__name__" 165 (vs "thinstack.rtt" 774))) 50 51) (lay 12 (g12 66) (prune 481 (tz P) 1 0))
noncomputable def S12 (w : World) (os : OsState) : SharedT := ⟨tr12 w.params, 481, {}, #[], ⟨0, 0, 0, 0⟩, 850, os⟩
noncomputable def ps12 : Pos := ⟨242, 0, 278, 56⟩
noncomputable def tr13 (P : Params) : BT := lay 3 (g3 P ((en P "__name__" 165 (vs "thinstack.send_queue" 850))) 51 52) (lay 12 (g12 69) (prune 537 (tz P) 1 0))
noncomputable def S13 (w : World) (os : OsState) : SharedT := ⟨tr13 w.params, 537, {}, #[], ⟨0, 0, 0, 0⟩, 922, os⟩
noncomputable def ps13 : Pos := ⟨280, 0, 307, 36⟩
noncomputable def tr14 (P : Params) : BT := lay 3 (g3 P ((en P "__name__" 165 (vs "thinstack.sender" 922))) 52 53) (lay 12 (g12 72) (prune 579 (tz P) 1 0))
noncomputable def S14 (w : World) (os : OsState) : SharedT := ⟨tr14 w.params, 579, {}, #[], ⟨0, 0, 0, 0⟩, 985, os⟩
noncomputable def ps14 : Pos := ⟨309, 0, 336, 44⟩
noncomputable def tr15 (P : Params) : BT := lay 3 (g3 P ((en P "__name__" 165 (vs "thinstack.sender" 922))) 53 54) (lay 12 (g12 75) (prune 770 (tz P) 1 0))
noncomputable def S15 (w : World) (os : OsState) : SharedT := ⟨tr15 w.params, 770, {}, #[], ⟨0, 0, 0, 0⟩, 1226, os⟩
noncomputable def ps15 : Pos := ⟨337, 0, 489, 60⟩
noncomputable def tr16 (P : Params) : BT := lay 3 (g3 P ((en P "__name__" 165 (vs "thinstack.wheel" 1226))) 53 54) (lay 12 (g12 75) (prune 770 (tz P) 1 0))
noncomputable def S16 (w : World) (os : OsState) : SharedT := ⟨tr16 w.params, 770, {}, #[], ⟨0, 0, 0, 0⟩, 1228, os⟩
noncomputable def ps16 : Pos := ⟨490, 0, 490, 8⟩
noncomputable def tr17 (P : Params) : BT := lay 3 (g3 P ((en P "__name__" 165 (vs "thinstack.wheel" 1226))) 54 55) (lay 12 (g12 78) (prune 837 (tz P) 1 0))
noncomputable def S17 (w : World) (os : OsState) : SharedT := ⟨tr17 w.params, 837, {}, #[], ⟨0, 0, 0, 0⟩, 1320, os⟩
noncomputable def ps17 : Pos := ⟨491, 0, 543, 20⟩
noncomputable def tr18 (P : Params) : BT := lay 3 (g3 P ((en P "__name__" 165 (vs "thinstack.tcb" 1320))) 61 62) (lay 12 (g12 84) (prune 865 (tz P) 1 0))
noncomputable def S18 (w : World) (os : OsState) : SharedT := ⟨tr18 w.params, 865, {}, #[], ⟨0, 0, 0, 0⟩, 1387, os⟩
noncomputable def ps18 : Pos := ⟨563, 0, 565, 55⟩
noncomputable def tr19 (P : Params) : BT := lay 3 (g3 P ((en P "__name__" 165 (vs "thinstack.tcp_user" 1453))) 65 66) (lay 12 (g12 93) (prune 915 (tz P) 1 0))
noncomputable def S19 (w : World) (os : OsState) : SharedT := ⟨tr19 w.params, 915, {}, #[], ⟨0, 0, 0, 0⟩, 1475, os⟩
noncomputable def ps19 : Pos := ⟨606, 0, 611, 29⟩
noncomputable def tr20 (P : Params) : BT := lay 3 (g3 P ((en P "__name__" 165 (vs "thinstack.tcp_input" 1575))) 77 78) (lay 12 (g12 129) (prune 999 (tz P) 1 0))
noncomputable def S20 (w : World) (os : OsState) : SharedT := ⟨tr20 w.params, 999, {}, #[], ⟨0, 0, 0, 0⟩, 1587, os⟩
noncomputable def ps20 : Pos := ⟨681, 0, 692, 37⟩
noncomputable def tr21 (P : Params) : BT := lay 3 (g3 P ((en P "__name__" 165 (vs "thinstack.assembly" 1650))) 83 84) (lay 12 (g12 147) (prune 1041 (tz P) 1 0))
noncomputable def S21 (w : World) (os : OsState) : SharedT := ⟨tr21 w.params, 1041, {}, #[], ⟨0, 0, 0, 0⟩, 1652, os⟩
noncomputable def ps21 : Pos := ⟨743, 0, 743, 8⟩
noncomputable def tr22 (P : Params) : BT := lay 3 (g3 P ((en P "__name__" 165 (vs "thinstack.assembly" 1650))) 84 85) (lay 12 (g12 150) (prune 1137 (tz P) 1 0))
noncomputable def S22 (w : World) (os : OsState) : SharedT := ⟨tr22 w.params, 1137, {}, #[], ⟨0, 0, 0, 0⟩, 1803, os⟩
noncomputable def ps22 : Pos := ⟨744, 0, 835, 17⟩
noncomputable def tr23 (P : Params) : BT := lay 3 (g3 P ((en P "__name__" 165 (vs "thinstack.receiver" 1803))) 84 85) (lay 12 (g12 150) (prune 1137 (tz P) 1 0))
noncomputable def S23 (w : World) (os : OsState) : SharedT := ⟨tr23 w.params, 1137, {}, #[], ⟨0, 0, 0, 0⟩, 1805, os⟩
noncomputable def ps23 : Pos := ⟨836, 0, 836, 8⟩
noncomputable def tr24 (P : Params) : BT := lay 3 (g3 P ((en P "__name__" 165 (vs "thinstack.receiver" 1803))) 85 86) (lay 12 (g12 153) (prune 1271 (tz P) 1 0))
noncomputable def S24 (w : World) (os : OsState) : SharedT := ⟨tr24 w.params, 1271, {}, #[], ⟨0, 0, 0, 0⟩, 1972, os⟩
noncomputable def ps24 : Pos := ⟨837, 0, 908, 17⟩
noncomputable def tr25 (P : Params) : BT := lay 3 (g3 P ((en P "__name__" 165 (vs "law_xw0354_01" 1972))) 96 97) (lay 12 (g12 186) (prune 1344 (tz P) 1 0))
noncomputable def S25 (w : World) (os : OsState) : SharedT := ⟨tr25 w.params, 1344, {}, #[], ⟨0, 0, 0, 0⟩, 2078, os⟩
noncomputable def ps25 : Pos := ⟨986, 0, 1002, 15⟩
noncomputable def sts0 : List Stmt := (body0.drop 0).take 8
noncomputable def sts1 : List Stmt := (body0.drop 8).take 1
noncomputable def sts2 : List Stmt := (body0.drop 9).take 1
noncomputable def sts3 : List Stmt := (body0.drop 10).take 11
noncomputable def sts4 : List Stmt := (body0.drop 21).take 3
noncomputable def sts5 : List Stmt := (body0.drop 24).take 18
noncomputable def sts6 : List Stmt := (body0.drop 42).take 2
noncomputable def sts7 : List Stmt := (body0.drop 44).take 1
noncomputable def sts8 : List Stmt := (body0.drop 45).take 1
noncomputable def sts9 : List Stmt := (body0.drop 46).take 2
noncomputable def sts10 : List Stmt := (body0.drop 48).take 1
noncomputable def sts11 : List Stmt := (body0.drop 49).take 2
noncomputable def sts12 : List Stmt := (body0.drop 51).take 2
noncomputable def sts13 : List Stmt := (body0.drop 53).take 2
noncomputable def sts14 : List Stmt := (body0.drop 55).take 1
noncomputable def sts15 : List Stmt := (body0.drop 56).take 1
noncomputable def sts16 : List Stmt := (body0.drop 57).take 1
noncomputable def sts17 : List Stmt := (body0.drop 58).take 8
noncomputable def sts18 : List Stmt := (body0.drop 66).take 5
noncomputable def sts19 : List Stmt := (body0.drop 71).take 13
noncomputable def sts20 : List Stmt := (body0.drop 84).take 7
noncomputable def sts21 : List Stmt := (body0.drop 91).take 1
noncomputable def sts22 : List Stmt := (body0.drop 92).take 1
noncomputable def sts23 : List Stmt := (body0.drop 93).take 1
noncomputable def sts24 : List Stmt := (body0.drop 94).take 12
noncomputable def envG : Env := { scope := PySem.Challenge.pw_xw0354_01.main.scope, locals := mainNs, globals := mainNs, cells := [], code := .ref 13, frame := some 14 }
noncomputable def cG : Code := .body (behindTheImports PySem.Challenge.pw_xw0354_01) envG
noncomputable def qG : Pos := ⟨0, 0, 0, 0⟩
noncomputable def segF := PySem.W.Fast.tw10110043849684766642
noncomputable def tabF := PySem.W.Fast.tw14364793385576792824
noncomputable def execsF := PySem.W.Fast.tw12563942051412417395
theorem toF {n : Nat} {w : World} {s : SharedT} {l : List Stmt} {p : Pos} {r : Option (Flow × SharedT × Code × Pos)}
  (h : segF tabF PySem.Challenge.pw_xw0354_01 w 11 (some (.ref 6)) 1 n s ⟨(execsF l envG).wrap doneF deadEnd id id, cG, p, [topFrame qG]⟩ = r) :
  segRunT treeTable PySem.Challenge.pw_xw0354_01 w 11 (some (.ref 6)) 1 n s (piecesOf l envG cG p [topFrame qG]) = r := by
 have e1 : @segRunT = segF := PySem.W.Fast.te10110043849684766642
 have e2 : treeTable = tabF := PySem.W.Fast.te14364793385576792824
 have e3 : @execs = execsF := PySem.W.Fast.te12563942051412417395
 rw [e1, e2]
 show segF tabF _ w 11 _ 1 n s ⟨(execs l envG).wrap doneF deadEnd id id, cG, p, [topFrame qG]⟩ = r
 rw [e3]
 exact h
end Mine
set_option maxRecDepth 100000
set_option maxHeartbeats 0
namespace Mine
open PySem PySem.W PySem.Calls PyProof.Rows
theorem pc0 (w : World) (os : OsState) : segRunT treeTable PySem.Challenge.pw_xw0354_01 w 11 (some (.ref 6)) 1 204 (S0 w os) (piecesOf sts0 envG cG ps0 [topFrame qG]) = some (.next, S1 w os, cG, ps1) := toF (by kernel_rfl)
theorem pc1 (w : World) (os : OsState) : segRunT treeTable PySem.Challenge.pw_xw0354_01 w 11 (some (.ref 6)) 1 229 (S1 w os) (piecesOf sts1 envG cG ps1 [topFrame qG]) = some (.next, S2 w os, cG, ps2) := toF (by kernel_rfl)
theorem pc2 (w : World) (os : OsState) : segRunT treeTable PySem.Challenge.pw_xw0354_01 w 11 (some (.ref 6)) 1 214 (S2 w os) (piecesOf sts2 envG cG ps2 [topFrame qG]) = some (.next, S3 w os, cG, ps3) := toF (by kernel_rfl)
theorem pc3 (w : World) (os : OsState) : segRunT treeTable PySem.Challenge.pw_xw0354_01 w 11 (some (.ref 6)) 1 324 (S3 w os) (piecesOf sts3 envG cG ps3 [topFrame qG]) = some (.next, S4 w os, cG, ps4) := toF (by kernel_rfl)
theorem pc4 (w : World) (os : OsState) : segRunT treeTable PySem.Challenge.pw_xw0354_01 w 11 (some (.ref 6)) 1 398 (S4 w os) (piecesOf sts4 envG cG ps4 [topFrame qG]) = some (.next, S5 w os, cG, ps5) := toF (by kernel_rfl)
theorem pc5 (w : World) (os : OsState) : segRunT treeTable PySem.Challenge.pw_xw0354_01 w 11 (some (.ref 6)) 1 263 (S5 w os) (piecesOf sts5 envG cG ps5 [topFrame qG]) = some (.next, S6 w os, cG, ps6) := toF (by kernel_rfl)
theorem pc6 (w : World) (os : OsState) : segRunT treeTable PySem.Challenge.pw_xw0354_01 w 11 (some (.ref 6)) 1 395 (S6 w os) (piecesOf sts6 envG cG ps6 [topFrame qG]) = some (.next, S7 w os, cG, ps7) := toF (by kernel_rfl)
theorem pc7 (w : World) (os : OsState) : segRunT treeTable PySem.Challenge.pw_xw0354_01 w 11 (some (.ref 6)) 1 10 (S7 w os) (piecesOf sts7 envG cG ps7 [topFrame qG]) = some (.next, S8 w os, cG, ps8) := toF (by kernel_rfl)
theorem pc8 (w : World) (os : OsState) : segRunT treeTable PySem.Challenge.pw_xw0354_01 w 11 (some (.ref 6)) 1 552 (S8 w os) (piecesOf sts8 envG cG ps8 [topFrame qG]) = some (.next, S9 w os, cG, ps9) := toF (by kernel_rfl)
theorem pc9 (w : World) (os : OsState) : segRunT treeTable PySem.Challenge.pw_xw0354_01 w 11 (some (.ref 6)) 1 19 (S9 w os) (piecesOf sts9 envG cG ps9 [topFrame qG]) = some (.next, S10 w os, cG, ps10) := toF (by kernel_rfl)
theorem pc10 (w : World) (os : OsState) : segRunT treeTable PySem.Challenge.pw_xw0354_01 w 11 (some (.ref 6)) 1 485 (S10 w os) (piecesOf sts10 envG cG ps10 [topFrame qG]) = some (.next, S11 w os, cG, ps11) := toF (by kernel_rfl)
theorem pc11 (w : World) (os : OsState) : segRunT treeTable PySem.Challenge.pw_xw0354_01 w 11 (some (.ref 6)) 1 397 (S11 w os) (piecesOf sts11 envG cG ps11 [topFrame qG]) = some (.next, S12 w os, cG, ps12) := toF (by kernel_rfl)
theorem pc12 (w : World) (os : OsState) : segRunT treeTable PySem.Challenge.pw_xw0354_01 w 11 (some (.ref 6)) 1 393 (S12 w os) (piecesOf sts12 envG cG ps12 [topFrame qG]) = some (.next, S13 w os, cG, ps13) := toF (by kernel_rfl)
theorem pc13 (w : World) (os : OsState) : segRunT treeTable PySem.Challenge.pw_xw0354_01 w 11 (some (.ref 6)) 1 336 (S13 w os) (piecesOf sts13 envG cG ps13 [topFrame qG]) = some (.next, S14 w os, cG, ps14) := toF (by kernel_rfl)
theorem pc14 (w : World) (os : OsState) : segRunT treeTable PySem.Challenge.pw_xw0354_01 w 11 (some (.ref 6)) 1 1069 (S14 w os) (piecesOf sts14 envG cG ps14 [topFrame qG]) = some (.next, S15 w os, cG, ps15) := toF (by kernel_rfl)
theorem pc15 (w : World) (os : OsState) : segRunT treeTable PySem.Challenge.pw_xw0354_01 w 11 (some (.ref 6)) 1 10 (S15 w os) (piecesOf sts15 envG cG ps15 [topFrame qG]) = some (.next, S16 w os, cG, ps16) := toF (by kernel_rfl)
theorem pc16 (w : World) (os : OsState) : segRunT treeTable PySem.Challenge.pw_xw0354_01 w 11 (some (.ref 6)) 1 451 (S16 w os) (piecesOf sts16 envG cG ps16 [topFrame qG]) = some (.next, S17 w os, cG, ps17) := toF (by kernel_rfl)
theorem pc17 (w : World) (os : OsState) : segRunT treeTable PySem.Challenge.pw_xw0354_01 w 11 (some (.ref 6)) 1 325 (S17 w os) (piecesOf sts17 envG cG ps17 [topFrame qG]) = some (.next, S18 w os, cG, ps18) := toF (by kernel_rfl)
theorem pc18 (w : World) (os : OsState) : segRunT treeTable PySem.Challenge.pw_xw0354_01 w 11 (some (.ref 6)) 1 389 (S18 w os) (piecesOf sts18 envG cG ps18 [topFrame qG]) = some (.next, S19 w os, cG, ps19) := toF (by kernel_rfl)
theorem pc19 (w : World) (os : OsState) : segRunT treeTable PySem.Challenge.pw_xw0354_01 w 11 (some (.ref 6)) 1 384 (S19 w os) (piecesOf sts19 envG cG ps19 [topFrame qG]) = some (.next, S20 w os, cG, ps20) := toF (by kernel_rfl)
theorem pc20 (w : World) (os : OsState) : segRunT treeTable PySem.Challenge.pw_xw0354_01 w 11 (some (.ref 6)) 1 205 (S20 w os) (piecesOf sts20 envG cG ps20 [topFrame qG]) = some (.next, S21 w os, cG, ps21) := toF (by kernel_rfl)
theorem pc21 (w : World) (os : OsState) : segRunT treeTable PySem.Challenge.pw_xw0354_01 w 11 (some (.ref 6)) 1 607 (S21 w os) (piecesOf sts21 envG cG ps21 [topFrame qG]) = some (.next, S22 w os, cG, ps22) := toF (by kernel_rfl)
theorem pc22 (w : World) (os : OsState) : segRunT treeTable PySem.Challenge.pw_xw0354_01 w 11 (some (.ref 6)) 1 10 (S22 w os) (piecesOf sts22 envG cG ps22 [topFrame qG]) = some (.next, S23 w os, cG, ps23) := toF (by kernel_rfl)
theorem pc23 (w : World) (os : OsState) : segRunT treeTable PySem.Challenge.pw_xw0354_01 w 11 (some (.ref 6)) 1 746 (S23 w os) (piecesOf sts23 envG cG ps23 [topFrame qG]) = some (.next, S24 w os, cG, ps24) := toF (by kernel_rfl)
theorem pc24 (w : World) (os : OsState) : segRunT treeTable PySem.Challenge.pw_xw0354_01 w 11 (some (.ref 6)) 1 352 (S24 w os) (piecesOf sts24 envG cG ps24 [topFrame qG]) = some (.next, S25 w os, cG, ps25) := toF (by kernel_rfl)
end Mine
set_option maxRecDepth 100000
set_option maxHeartbeats 0
namespace Mine
open PySem PySem.W PySem.Calls PyProof.Rows
noncomputable def hl (P : Params) : List Obj := [o0 P, o1 P, o2 P, o3 P, o4 P, o5 P, o6 P, o7 P, o8 P, o9 P, o10 P, o11 P, o12 P, o13 P, o14 P, o15 P, o16 P, o17 P, o18 P, o19 P, o20 P, o21 P, o22 P, o23 P, o24 P, o25 P, o26 P, o27 P, o28 P, o29 P, o30 P, o31 P, o32 P, o33 P, o34 P, o35 P, o36 P, o37 P, o38 P, o39 P, o40 P, o41 P, o42 P, o43 P, o44 P, o45 P, o46 P, o47 P, o48 P, o49 P, o50 P, o51 P, o52 P, o53 P, o54 P, o55 P, o56 P, o57 P, o58 P, o59 P, o60 P, o61 P, o62 P, o63 P, o64 P, o65 P, o66 P, o67 P, o68 P, o69 P, o70 P, o71 P, o72 P, o73 P, o74 P, o75 P, o76 P, o77 P, o78 P, o79 P, o80 P, o81 P, o82 P, o83 P, o84 P, o85 P, o86 P, o87 P, o88 P, o89 P, o90 P, o91 P, o92 P, o93 P, o94 P, o95 P, o96 P, o97 P, o98 P, o99 P, o100 P, o101 P, o102 P, o103 P, o104 P, o105 P, o106 P, o107 P, o108 P, o109 P, o110 P, o111 P, o112 P, o113 P, o114 P, o115 P, o116 P, o117 P, o118 P, o119 P, o120 P, o121 P, o122 P, o123 P, o124 P, o125 P, o126 P, o127 P, o128 P, o129 P, o130 P, o131 P, o132 P, o133 P, o134 P, o135 P, o136 P, o137 P, o138 P, o139 P, o140 P, o141 P, o142 P, o143 P, o144 P, o145 P, o146 P, o147 P, o148 P, o149 P, o150 P, o151 P, o152 P, o153 P, o154 P, o155 P, o156 P, o157 P, o158 P, o159 P, o160 P, o161 P, o162 P, o163 P, o164 P, o165 P, o166 P, o167 P, o168 P, o169 P, o170 P, o171 P, o172 P, o173 P, o174 P, o175 P, o176 P, o177 P, o178 P, o179 P, o180 P, o181 P, o182 P, o183 P, o184 P, o185 P, o186 P, o187 P, o188 P, o189 P, o190 P, o191 P, o192 P, o193 P, o194 P, o195 P, o196 P, o197 P, o198 P, o199 P, o200 P, o201 P, o202 P, o203 P, o204 P, o205 P, o206 P, o207 P, o208 P, o209 P, o210 P, o211 P, o212 P, o213 P, o214 P, o215 P, o216 P, o217 P, o218 P, o219 P, o220 P, o221 P, o222 P, o223 P, o224 P, o225 P, o226 P, o227 P, o228 P, o229 P, o230 P, o231 P, o232 P, o233 P, o234 P, o235 P, o236 P, o237 P, o238 P, o239 P, o240 P, o241 P, o242 P, o243 P, o244 P, o245 P, o246 P, o247 P, o248 P, o249 P, o250 P, o251 P, o252 P, o253 P, o254 P, o255 P, o256 P, o257 P, o258 P, o259 P, o260 P, o261 P, o262 P, o263 P, o264 P, o265 P, o266 P, o267 P, o268 P, o269 P, o270 P, o271 P, o272 P, o273 P, o274 P, o275 P, o276 P, o277 P, o278 P, o279 P, o280 P, o281 P, o282 P, o283 P, o284 P, o285 P, o286 P, o287 P, o288 P, o289 P, o290 P, o291 P, o292 P, o293 P, o294 P, o295 P, o296 P, o297 P, o298 P, o299 P, o300 P, o301 P, o302 P, o303 P, o304 P, o305 P, o306 P, o307 P, o308 P, o309 P, o310 P, o311 P, o312 P, o313 P, o314 P, o315 P, o316 P, o317 P, o318 P, o319 P, o320 P, o321 P, o322 P, o323 P, o324 P, o325 P, o326 P, o327 P, o328 P, o329 P, o330 P, o331 P, o332 P, o333 P, o334 P, o335 P, o336 P, o337 P, o338 P, o339 P, o340 P, o341 P, o342 P, o343 P, o344 P, o345 P, o346 P, o347 P, o348 P, o349 P, o350 P, o351 P, o352 P, o353 P, o354 P, o355 P, o356 P, o357 P, o358 P, o359 P, o360 P, o361 P, o362 P, o363 P, o364 P, o365 P, o366 P, o367 P, o368 P, o369 P, o370 P, o371 P, o372 P, o373 P, o374 P, o375 P, o376 P, o377 P, o378 P, o379 P, o380 P, o381 P, o382 P, o383 P, o384 P, o385 P, o386 P, o387 P, o388 P, o389 P, o390 P, o391 P, o392 P, o393 P, o394 P, o395 P, o396 P, o397 P, o398 P, o399 P, o400 P, o401 P, o402 P, o403 P, o404 P, o405 P, o406 P, o407 P, o408 P, o409 P, o410 P, o411 P, o412 P, o413 P, o414 P, o415 P, o416 P, o417 P, o418 P, o419 P, o420 P, o421 P, o422 P, o423 P, o424 P, o425 P, o426 P, o427 P, o428 P, o429 P, o430 P, o431 P, o432 P, o433 P, o434 P, o435 P, o436 P, o437 P, o438 P, o439 P, o440 P, o441 P, o442 P, o443 P, o444 P, o445 P, o446 P, o447 P, o448 P, o449 P, o450 P, o451 P, o452 P, o453 P, o454 P, o455 P, o456 P, o457 P, o458 P, o459 P, o460 P, o461 P, o462 P, o463 P, o464 P, o465 P, o466 P, o467 P, o468 P, o469 P, o470 P, o471 P, o472 P, o473 P, o474 P, o475 P, o476 P, o477 P, o478 P, o479 P, o480 P, o481 P, o482 P, o483 P, o484 P, o485 P, o486 P, o487 P, o488 P, o489 P, o490 P, o491 P, o492 P, o493 P, o494 P, o495 P, o496 P, o497 P, o498 P, o499 P, o500 P, o501 P, o502 P, o503 P, o504 P, o505 P, o506 P, o507 P, o508 P, o509 P, o510 P, o511 P, o512 P, o513 P, o514 P, o515 P, o516 P, o517 P, o518 P, o519 P, o520 P, o521 P, o522 P, o523 P, o524 P, o525 P, o526 P, o527 P, o528 P, o529 P, o530 P, o531 P, o532 P, o533 P, o534 P, o535 P, o536 P, o537 P, o538 P, o539 P, o540 P, o541 P, o542 P, o543 P, o544 P, o545 P, o546 P, o547 P, o548 P, o549 P, o550 P, o551 P, o552 P, o553 P, o554 P, o555 P, o556 P, o557 P, o558 P, o559 P, o560 P, o561 P, o562 P, o563 P, o564 P, o565 P, o566 P, o567 P, o568 P, o569 P, o570 P, o571 P, o572 P, o573 P, o574 P, o575 P, o576 P, o577 P, o578 P, o579 P, o580 P, o581 P, o582 P, o583 P, o584 P, o585 P, o586 P, o587 P, o588 P, o589 P, o590 P, o591 P, o592 P, o593 P, o594 P, o595 P, o596 P, o597 P, o598 P, o599 P, o600 P, o601 P, o602 P, o603 P, o604 P, o605 P, o606 P, o607 P, o608 P, o609 P, o610 P, o611 P, o612 P, o613 P, o614 P, o615 P, o616 P, o617 P, o618 P, o619 P, o620 P, o621 P, o622 P, o623 P, o624 P, o625 P, o626 P, o627 P, o628 P, o629 P, o630 P, o631 P, o632 P, o633 P, o634 P, o635 P, o636 P, o637 P, o638 P, o639 P, o640 P, o641 P, o642 P, o643 P, o644 P, o645 P, o646 P, o647 P, o648 P, o649 P, o650 P, o651 P, o652 P, o653 P, o654 P, o655 P, o656 P, o657 P, o658 P, o659 P, o660 P, o661 P, o662 P, o663 P, o664 P, o665 P, o666 P, o667 P, o668 P, o669 P, o670 P, o671 P, o672 P, o673 P, o674 P, o675 P, o676 P, o677 P, o678 P, o679 P, o680 P, o681 P, o682 P, o683 P, o684 P, o685 P, o686 P, o687 P, o688 P, o689 P, o690 P, o691 P, o692 P, o693 P, o694 P, o695 P, o696 P, o697 P, o698 P, o699 P, o700 P, o701 P, o702 P, o703 P, o704 P, o705 P, o706 P, o707 P, o708 P, o709 P, o710 P, o711 P, o712 P, o713 P, o714 P, o715 P, o716 P, o717 P, o718 P, o719 P, o720 P, o721 P, o722 P, o723 P, o724 P, o725 P, o726 P, o727 P, o728 P, o729 P, o730 P, o731 P, o732 P, o733 P, o734 P, o735 P, o736 P, o737 P, o738 P, o739 P, o740 P, o741 P, o742 P, o743 P, o744 P, o745 P, o746 P, o747 P, o748 P, o749 P, o750 P, o751 P, o752 P, o753 P, o754 P, o755 P, o756 P, o757 P, o758 P, o759 P, o760 P, o761 P, o762 P, o763 P, o764 P, o765 P, o766 P, o767 P, o768 P, o769 P, o770 P, o771 P, o772 P, o773 P, o774 P, o775 P, o776 P, o777 P, o778 P, o779 P, o780 P, o781 P, o782 P, o783 P, o784 P, o785 P, o786 P, o787 P, o788 P, o789 P, o790 P, o791 P, o792 P, o793 P, o794 P, o795 P, o796 P, o797 P, o798 P, o799 P, o800 P, o801 P, o802 P, o803 P, o804 P, o805 P, o806 P, o807 P, o808 P, o809 P, o810 P, o811 P, o812 P, o813 P, o814 P, o815 P, o816 P, o817 P, o818 P, o819 P, o820 P, o821 P, o822 P, o823 P, o824 P, o825 P, o826 P, o827 P, o828 P, o829 P, o830 P, o831 P, o832 P, o833 P, o834 P, o835 P, o836 P, o837 P, o838 P, o839 P, o840 P, o841 P, o842 P, o843 P, o844 P, o845 P, o846 P, o847 P, o848 P, o849 P, o850 P, o851 P, o852 P, o853 P, o854 P, o855 P, o856 P, o857 P, o858 P, o859 P, o860 P, o861 P, o862 P, o863 P, o864 P, o865 P, o866 P, o867 P, o868 P, o869 P, o870 P, o871 P, o872 P, o873 P, o874 P, o875 P, o876 P, o877 P, o878 P, o879 P, o880 P, o881 P, o882 P, o883 P, o884 P, o885 P, o886 P, o887 P, o888 P, o889 P, o890 P, o891 P, o892 P, o893 P, o894 P, o895 P, o896 P, o897 P, o898 P, o899 P, o900 P, o901 P, o902 P, o903 P, o904 P, o905 P, o906 P, o907 P, o908 P, o909 P, o910 P, o911 P, o912 P, o913 P, o914 P, o915 P, o916 P, o917 P, o918 P, o919 P, o920 P, o921 P, o922 P, o923 P, o924 P, o925 P, o926 P, o927 P, o928 P, o929 P, o930 P, o931 P, o932 P, o933 P, o934 P, o935 P, o936 P, o937 P, o938 P, o939 P, o940 P, o941 P, o942 P, o943 P, o944 P, o945 P, o946 P, o947 P, o948 P, o949 P, o950 P, o951 P, o952 P, o953 P, o954 P, o955 P, o956 P, o957 P, o958 P, o959 P, o960 P, o961 P, o962 P, o963 P, o964 P, o965 P, o966 P, o967 P, o968 P, o969 P, o970 P, o971 P, o972 P, o973 P, o974 P, o975 P, o976 P, o977 P, o978 P, o979 P, o980 P, o981 P, o982 P, o983 P, o984 P, o985 P, o986 P, o987 P, o988 P, o989 P, o990 P, o991 P, o992 P, o993 P, o994 P, o995 P, o996 P, o997 P, o998 P, o999 P, o1000 P, o1001 P, o1002 P, o1003 P, o1004 P, o1005 P, o1006 P, o1007 P, o1008 P, o1009 P, o1010 P, o1011 P, o1012 P, o1013 P, o1014 P, o1015 P, o1016 P, o1017 P, o1018 P, o1019 P, o1020 P, o1021 P, o1022 P, o1023 P, o1024 P, o1025 P, o1026 P, o1027 P, o1028 P, o1029 P, o1030 P, o1031 P, o1032 P, o1033 P, o1034 P, o1035 P, o1036 P, o1037 P, o1038 P, o1039 P, o1040 P, o1041 P, o1042 P, o1043 P, o1044 P, o1045 P, o1046 P, o1047 P, o1048 P, o1049 P, o1050 P, o1051 P, o1052 P, o1053 P, o1054 P, o1055 P, o1056 P, o1057 P, o1058 P, o1059 P, o1060 P, o1061 P, o1062 P, o1063 P, o1064 P, o1065 P, o1066 P, o1067 P, o1068 P, o1069 P, o1070 P, o1071 P, o1072 P, o1073 P, o1074 P, o1075 P, o1076 P, o1077 P, o1078 P, o1079 P, o1080 P, o1081 P, o1082 P, o1083 P, o1084 P, o1085 P, o1086 P, o1087 P, o1088 P, o1089 P, o1090 P, o1091 P, o1092 P, o1093 P, o1094 P, o1095 P, o1096 P, o1097 P, o1098 P, o1099 P, o1100 P, o1101 P, o1102 P, o1103 P, o1104 P, o1105 P, o1106 P, o1107 P, o1108 P, o1109 P, o1110 P, o1111 P, o1112 P, o1113 P, o1114 P, o1115 P, o1116 P, o1117 P, o1118 P, o1119 P, o1120 P, o1121 P, o1122 P, o1123 P, o1124 P, o1125 P, o1126 P, o1127 P, o1128 P, o1129 P, o1130 P, o1131 P, o1132 P, o1133 P, o1134 P, o1135 P, o1136 P, o1137 P, o1138 P, o1139 P, o1140 P, o1141 P, o1142 P, o1143 P, o1144 P, o1145 P, o1146 P, o1147 P, o1148 P, o1149 P, o1150 P, o1151 P, o1152 P, o1153 P, o1154 P, o1155 P, o1156 P, o1157 P, o1158 P, o1159 P, o1160 P, o1161 P, o1162 P, o1163 P, o1164 P, o1165 P, o1166 P, o1167 P, o1168 P, o1169 P, o1170 P, o1171 P, o1172 P, o1173 P, o1174 P, o1175 P, o1176 P, o1177 P, o1178 P, o1179 P, o1180 P, o1181 P, o1182 P, o1183 P, o1184 P, o1185 P, o1186 P, o1187 P, o1188 P, o1189 P, o1190 P, o1191 P, o1192 P, o1193 P, o1194 P, o1195 P, o1196 P, o1197 P, o1198 P, o1199 P, o1200 P, o1201 P, o1202 P, o1203 P, o1204 P, o1205 P, o1206 P, o1207 P, o1208 P, o1209 P, o1210 P, o1211 P, o1212 P, o1213 P, o1214 P, o1215 P, o1216 P, o1217 P, o1218 P, o1219 P, o1220 P, o1221 P, o1222 P, o1223 P, o1224 P, o1225 P, o1226 P, o1227 P, o1228 P, o1229 P, o1230 P, o1231 P, o1232 P, o1233 P, o1234 P, o1235 P, o1236 P, o1237 P, o1238 P, o1239 P, o1240 P, o1241 P, o1242 P, o1243 P, o1244 P, o1245 P, o1246 P, o1247 P, o1248 P, o1249 P, o1250 P, o1251 P, o1252 P, o1253 P, o1254 P, o1255 P, o1256 P, o1257 P, o1258 P, o1259 P, o1260 P, o1261 P, o1262 P, o1263 P, o1264 P, o1265 P, o1266 P, o1267 P, o1268 P, o1269 P, o1270 P, o1271 P, o1272 P, o1273 P, o1274 P, o1275 P, o1276 P, o1277 P, o1278 P, o1279 P, o1280 P, o1281 P, o1282 P, o1283 P, o1284 P, o1285 P, o1286 P, o1287 P, o1288 P, o1289 P, o1290 P, o1291 P, o1292 P, o1293 P, o1294 P, o1295 P, o1296 P, o1297 P, o1298 P, o1299 P, o1300 P, o1301 P, o1302 P, o1303 P, o1304 P, o1305 P, o1306 P, o1307 P, o1308 P, o1309 P, o1310 P, o1311 P, o1312 P, o1313 P, o1314 P, o1315 P, o1316 P, o1317 P, o1318 P, o1319 P, o1320 P, o1321 P, o1322 P, o1323 P, o1324 P, o1325 P, o1326 P, o1327 P, o1328 P, o1329 P, o1330 P, o1331 P, o1332 P, o1333 P, o1334 P, o1335 P, o1336 P, o1337 P, o1338 P, o1339 P, o1340 P, o1341 P, o1342 P, o1343 P]
theorem heap_is (P : Params) : absHeap (tr25 P) 1344 {} = ⟨⟨hl P⟩, {}⟩ := by kernel_rfl
noncomputable def pw := PySem.Challenge.pw_xw0354_01
noncomputable def annG : Option Value := some (.ref 6)
noncomputable def topGoF := PySem.W.Fast.tw15667345088766844465
noncomputable def denoteF := PySem.W.Fast.tw11892475500146522536
noncomputable def topRunF := PySem.W.Fast.tw14082659384304107361
noncomputable def segRunF := PySem.W.Fast.tw14374325043358763698
noncomputable def blockF := PySem.W.Fast.tw1066825118222455980
theorem preF (w : World) (os : OsState) : topGoF tabF pw w 11 annG 12 ⟨boot_heap w.params, Array.mk [], boot_drawn, boot_toks, os⟩ (topStub pw) = some ((S0 w os).abs, ⟨denoteF tabF cG, cG, ps0, [topFrame qG]⟩) := by kernel_rfl
theorem pre (w : World) (os : OsState) : topGo treeTable pw w 11 annG 12 ⟨boot_heap w.params, Array.mk [], boot_drawn, boot_toks, os⟩ (topStub pw) = some ((S0 w os).abs, ⟨denote treeTable cG, cG, ps0, [topFrame qG]⟩) := by
 have e1 : @topGo = topGoF := PySem.W.Fast.te15667345088766844465
 have e2 : treeTable = tabF := PySem.W.Fast.te14364793385576792824
 have e3 : @denote = denoteF := PySem.W.Fast.te11892475500146522536
 rw [e1, e2, e3]
 exact preF w os
theorem blockE : blockF (behindTheImports pw) envG = pure () := by kernel_rfl
theorem block (w : World) (os : OsState) : segRun treeTable pw w 11 annG 1 1 ((S0 w os).abs) (blockOf (behindTheImports pw) envG cG ps0 [topFrame qG]) = some (.next, (S0 w os).abs, cG, ps0) := by
 have e1 : @blockStart = blockF := PySem.W.Fast.te1066825118222455980
 show segRun treeTable pw w 11 annG 1 1 ((S0 w os).abs) ⟨(blockStart (behindTheImports pw) envG).wrap (fun _ => doneF .next) deadEnd id id, cG, ps0, [topFrame qG]⟩ = _
 rw [e1, blockE]
 rfl
theorem finT (w : World) (os : OsState) : topRun treeTable pw w 11 annG 2 ((S25 w os).abs) ⟨doneF .next, cG, ps25, [topFrame qG]⟩ = some ((S25 w os).abs) := by kernel_rfl
theorem bodyE : behindTheImports pw = (sts0 ++ (sts1 ++ (sts2 ++ (sts3 ++ (sts4 ++ (sts5 ++ (sts6 ++ (sts7 ++ (sts8 ++ (sts9 ++ (sts10 ++ (sts11 ++ (sts12 ++ (sts13 ++ (sts14 ++ (sts15 ++ (sts16 ++ (sts17 ++ (sts18 ++ (sts19 ++ (sts20 ++ (sts21 ++ (sts22 ++ (sts23 ++ (sts24 ++ []))))))))))))))))))))))))) := by kernel_rfl
theorem runT (w : World) (os : OsState) : topRun treeTable pw w 11 annG (12 + (1 + (204 + (229 + (214 + (324 + (398 + (263 + (395 + (10 + (552 + (19 + (485 + (397 + (393 + (336 + (1069 + (10 + (451 + (325 + (389 + (384 + (205 + (607 + (10 + (746 + (352 + 2))))))))))))))))))))))))))) ⟨boot_heap w.params, Array.mk [], boot_drawn, boot_toks, os⟩ (topStub pw) = some ((S25 w os).abs) := by
 have k := (piece_app (segRun_of (pc0 w os)) (piece_app (segRun_of (pc1 w os)) (piece_app (segRun_of (pc2 w os)) (piece_app (segRun_of (pc3 w os)) (piece_app (segRun_of (pc4 w os)) (piece_app (segRun_of (pc5 w os)) (piece_app (segRun_of (pc6 w os)) (piece_app (segRun_of (pc7 w os)) (piece_app (segRun_of (pc8 w os)) (piece_app (segRun_of (pc9 w os)) (piece_app (segRun_of (pc10 w os)) (piece_app (segRun_of (pc11 w os)) (piece_app (segRun_of (pc12 w os)) (piece_app (segRun_of (pc13 w os)) (piece_app (segRun_of (pc14 w os)) (piece_app (segRun_of (pc15 w os)) (piece_app (segRun_of (pc16 w os)) (piece_app (segRun_of (pc17 w os)) (piece_app (segRun_of (pc18 w os)) (piece_app (segRun_of (pc19 w os)) (piece_app (segRun_of (pc20 w os)) (piece_app (segRun_of (pc21 w os)) (piece_app (segRun_of (pc22 w os)) (piece_app (segRun_of (pc23 w os)) (piece_app (segRun_of (pc24 w os)) (piece_nil (finT w os)))))))))))))))))))))))))))
 rw [← bodyE] at k
 exact go_top (pre w os) (piece_block (block w os) k)
noncomputable def dL : DefRec := match tS 105 with
 | .FunctionDef n a b _ _ _ sc _ _ p => ⟨n, a, b, sc, p⟩
 | _ => ⟨default, default, default, default, default⟩
noncomputable def qL : Program := { pw with main := { pw.main with body := [tS 105] } }
noncomputable def looseL : List Str := [ss "_wall", ss "plus", ss "distance", ss "is_before", ss "is_at_most", ss "latest", ss "StackError", ss "SizeError", ss "StateError", ss "put16", ss "FIN", ss "SYN", ss "RST", ss "PSH", ss "ACK", ss "OPTION_MSS", ss "MSS_SIZE", ss "Segment", ss "check_number", ss "mss_option", ss "CLOSED", ss "LISTEN", ss "SYN_SENT", ss "SYN_RECEIVED", ss "ESTABLISHED", ss "FIN_WAIT_1", ss "FIN_WAIT_2", ss "CLOSE_WAIT", ss "CLOSING", ss "LAST_ACK", ss "TIME_WAIT", ss "opening_steps", ss "closing_steps", ss "follow", ss "is_synchronized", ss "is_sending", ss "AckPolicy", ss "DUPLICATES", ss "Congestion", ss "MOST_SHIFT_retransmit", ss "RetransmitClock", ss "RttEstimate", ss "SendQueue", ss "PeerWindow", ss "Sender", ss "Wheel", ss "RESEND", ss "PERSIST", ss "DELAYED", ss "WAIT", ss "MOST_WINDOW", ss "Limits", ss "clock_of", ss "Tcb", ss "MOST_SHIFT_tcp_user", ss "change_state", ss "closed", ss "enter_time_wait", ss "ack_segment", ss "syn_segment", ss "flags_of", ss "take_asked_fin", ss "data_segments", ss "output", ss "set_resend", ss "keep_timers", ss "probe_wait", ss "segment_again", ss "turned_down", ss "is_old_acknowledgement", ss "is_too_far", ss "take_ack", ss "take_acknowledgement", ss "take_duplicate", ss "end_of_sending", ss "Assembly", ss "Receiver", ss "_law_pool", ss "_law_take", ss "_law_one", ss "_law_end", ss "_law_has_fin", ss "_law_later", ss "_law_window", ss "_law_row_right", ss "_law_state_right", ss "_law_thrice_right"]
noncomputable def H1 (P : Params) : Heap := ⟨⟨hl P⟩, {}⟩
noncomputable def s1 (w : World) (os : OsState) : Shared := ⟨H1 w.params, #[], ⟨0, 0, 0, 0⟩, 2078, os⟩
theorem abs_is (w : World) (os : OsState) : (S25 w os).abs = s1 w os := by
 show (⟨absHeap (tr25 w.params) 1344 {}, #[], ⟨0, 0, 0, 0⟩, 2078, os⟩ : Shared) = ⟨⟨⟨hl w.params⟩, {}⟩, #[], ⟨0, 0, 0, 0⟩, 2078, os⟩
 rw [heap_is]
theorem sizeT (w : World) : ((boot_heap w.params).isNs mainGlobals && (Array.mk ([] : List GenState)).size == 0, (boot_heap w.params).objs.size, (boot_heap w.params).nsMap mainGlobals "__annotations__") = (true, 11, annG) := by kernel_rfl
theorem look1 (w : World) : staticsOk (importedModules pw.main.body) (boot_heap w.params) (H1 w.params) = true := by kernel_rfl
theorem look2 (w : World) : namesBound pw (H1 w.params) = true := by kernel_rfl
theorem look3 (w : World) (os : OsState) : gensDone (s1 w os) = true := by kernel_rfl
theorem look4 (w : World) : laidKept (boot_heap w.params) (H1 w.params) = true := by kernel_rfl
noncomputable def openF := PySem.W.Fast.tw4187177175401517315
theorem look5 (w : World) (os : OsState) : openF qL looseL (importedModules pw.main.body) (fun _ => true) true (s1 w os) = openGood qL looseL := by kernel_rfl
end Mine
set_option maxRecDepth 100000
set_option maxHeartbeats 0
namespace Mine
open PySem PySem.W PySem.Calls PyProof.Rows
theorem openE : opening pw = plainProg pw.main.scope.names := by kernel_rfl
theorem leftT : LeftO PySem.Challenge.pw_xw0354_01 qL looseL (fun _ => true) (fun s => s.heap) (fun w => H1 w.params) 20000 := by
 refine LeftO.of_pieces (H₀ := boot_heap) (H₁ := H1) (gs₁ := #[]) (d₁ := ⟨0, 0, 0, 0⟩) (k₁ := 2078) (m₀ := 11) (ann := annG) (boot_open openE (by decide) (fun s => by kernel_rfl)) (fun w => sizeT w) (fun w os => ((runT w os).trans (congrArg some (abs_is w os)))) (by decide) fun w => ?_
 funext os
 refine Prod.ext ?_ (Prod.ext ?_ rfl)
 ·show (staticsOk (importedModules pw.main.body) (boot_heap w.params) (H1 w.params) && namesBound pw (H1 w.params) && gensDone (s1 w os) && laidKept (boot_heap w.params) (H1 w.params)) = true
  rw [look1 w, look2 w, look3 w os, look4 w]
  rfl
 ·have e1 : @openSeen = openF := PySem.W.Fast.te4187177175401517315
  show openSeen qL looseL (importedModules pw.main.body) (fun _ => true) true (s1 w os) = openGood qL looseL
  rw [e1]
  exact look5 w os
end Mine
set_option maxRecDepth 100000
set_option maxHeartbeats 0
namespace Mine
open PySem PySem.W PySem.Calls PyProof.Rows
noncomputable abbrev pwL : Program := PySem.Challenge.pw_xw0354_01
noncomputable abbrev rwL : OpenLaw := PySem.Challenge.rw_xw0354_01
noncomputable abbrev rowL : OpenRow := rwL.row
theorem la0 : (sreFenced pwL.main && ((moduleNames pwL.main.body).isEmpty || lookedIntoSs (moduleNames pwL.main.body) pwL.main.body)) = true := by kernel_rfl
theorem la1 : (namesResolve pwL) = true := by kernel_rfl
theorem la2 : (pwL.boundNames.all (fun n => !worldNames.contains n)) = true := by kernel_rfl
theorem qa1 : (!(importedModules pwL.main.body).all cThrough.contains) = false := by kernel_rfl
theorem qa2 : readsOut pwL pwL.main.body "vars" = false := by kernel_rfl
theorem qa3 : readsOut pwL pwL.main.body "dir" = false := by kernel_rfl
theorem qa4 : readsOut pwL pwL.main.body "locals" = false := by kernel_rfl
theorem qa5 : (["vars", "dir", "locals"] : List Str).filter (readsOut pwL pwL.main.body) = [] := by
 rw [List.filter_cons_of_neg (by rw [qa2]; exact Bool.false_ne_true), List.filter_cons_of_neg (by rw [qa3]; exact Bool.false_ne_true), List.filter_cons_of_neg (by rw [qa4]; exact Bool.false_ne_true)]; rfl
theorem qa6 : noRoadLSs { strict := false, foot := none, bare := [] } pwL.main.body = true := by kernel_rfl
theorem la3 : (noRoadLSs { strict := !(importedModules pwL.main.body).all cThrough.contains, foot := none, bare := (["vars", "dir", "locals"] : List Str).filter (readsOut pwL pwL.main.body) } pwL.main.body) = true := by
 rw [qa1, qa5]
 exact qa6
theorem la4 : (namesMeet pwL pwL.main.body (fun _ n => attrL n)) = true := by kernel_rfl
theorem laT : looksOpen pwL = true := (look_both (look_both (look_both (look_both la0 la1) la2) la3) la4)
theorem lb0 : (looksOpen rowL.prog) = true := laT
theorem lb1 : (rowL.loose.isEmpty) = true := by kernel_rfl
theorem lb2 : (rowL.makers.isEmpty) = true := by kernel_rfl
theorem lb3 : ((rowL.records.isEmpty || rowL.raises.all fun ct => ct.1 != .builtin "AttributeError" && ct.1 != .builtin "TypeError")) = true := by kernel_rfl
theorem lb4 : ((rowL.raises.all fun ct => match ct.1 with | .builtin n => !rowL.prog.boundNames.contains (Str.ofString n) && !ofTheWorld.contains n | .own _ => true)) = true := by kernel_rfl
theorem lb5 : (decide (rowL.records.map (·.1)).Nodup) = true := by kernel_rfl
theorem lb6 : ((rowL.records.all fun x => !x.1.opensWith "__" && !builtinNamed x.1 && rowL.prog.boundNames.contains x.1 && x.2.all fun f => !f.1.opensWith "__")) = true := by kernel_rfl
theorem lb7 : (rowL.toRowW.solid) = true := by kernel_rfl
theorem lb8 : (rowL.pre.litsOk) = true := by kernel_rfl
theorem lb9 : (rowL.post.litsOk) = true := by kernel_rfl
theorem lb10 : (rowL.raises.all (·.2.litsOk)) = true := by kernel_rfl
theorem lb11 : (rowL.mutates.all (fun i => match rowL.args[i]? with | some sh => !sh.arms.any WShape.isObj | none => false)) = true := by kernel_rfl
theorem lb12 : (rowL.within.all (fun i => decide (i < rowL.args.length))) = true := by kernel_rfl
theorem lb13 : (rowL.same.all (fun i => decide (i < rowL.args.length))) = true := by kernel_rfl
theorem lbT : rowL.partSaid = true := (look_both (look_both (look_both (look_both (look_both (look_both (look_both (look_both (look_both (look_both (look_both (look_both (look_both lb0 lb1) lb2) lb3) lb4) lb5) lb6) lb7) lb8) lb9) lb10) lb11) lb12) lb13)
theorem lc0 : (rowL.partSaid) = true := lbT
theorem lc1 : (rowL.prog.boundNames.contains rowL.name) = true := by kernel_rfl
theorem lc2 : (!startupNames.contains rowL.name) = true := by kernel_rfl
theorem lcT : rowL.wellSaid = true := (look_both (look_both lc0 lc1) lc2)
theorem lw0 : (rwL.row.wellSaid) = true := lcT
theorem lw1 : (decide (rwL.foot ≤ (behindTheImports rwL.prog).length)) = true := by kernel_rfl
theorem lw2 : (rwL.footing.all footLine) = true := by kernel_rfl
theorem lw3 : (noClassBlock rwL.prog rwL.footing) = true := by kernel_rfl
theorem lw4 : (rwL.most.all (fun n => decide (63 ≤ n))) = true := by kernel_rfl
theorem lw5 : (rwL.bound.all (fun n => decide (2 ^ 63 ≤ n))) = true := by kernel_rfl
theorem lw6 : (noRoadLSs { strict := true, foot := some rwL.bound', writes := rwL.writes, may := rwL.may } rwL.footing) = true := by kernel_rfl
theorem lw7 : (defStands rwL.about rwL.above) = true := by kernel_rfl
theorem lw8 : (rwL.namesIt) = true := by kernel_rfl
theorem lw9 : ((["type", "isinstance", "issubclass", "getattr", "hasattr"] : List Str).all (fun n => rwL.about != [n])) = true := by kernel_rfl
theorem lw10 : (rwL.bound'.all (fun n => !builtinNamed n || rwL.about == [n] || !rwL.reads n)) = true := by kernel_rfl
theorem lw11 : ((!rwL.writes || (rwL.prog.main.body.flatMap importedNames).all fun n => !rwL.reads n)) = true := by kernel_rfl
theorem lw12 : ((rwL.prog.main.body.flatMap importedNames).all (fun n => !rwL.reads n || (drawsOf n rwL.prog.main.body).all fun mn => mn.2 != ("attrgetter" : Str) && mn.2 != ("methodcaller" : Str))) = true := by kernel_rfl
theorem lw13 : (namesMeet rwL.prog rwL.footing (fun sc n => (!(["type", "isinstance", "issubclass", "getattr", "hasattr"] : List Str).contains n || sc.names.lookup n == some .globalImplicit) && (rwL.may != some n || sc.kind == .module || sc.names.lookup n == some .globalImplicit))) = true := by kernel_rfl
theorem lw14 : (rwL.own.contains rwL.name) = true := by kernel_rfl
theorem lw15 : (rwL.own.eraseDups.length == rwL.own.length) = true := by kernel_rfl
theorem lw16 : (rwL.own.all (fun n => !builtinNamed n)) = true := by kernel_rfl
theorem lw17 : (namesMeet rwL.prog rwL.above (fun _ n => !rwL.own.contains n)) = true := by kernel_rfl
theorem lw18 : (namesMeet rwL.prog rwL.footing (fun sc n => sc.kind == .module || sc.names.lookup n != some .globalExplicit)) = true := by kernel_rfl
theorem lawSaid : OpenLaw.wellSaid PySem.Challenge.rw_xw0354_01 = true := (look_both (look_both (look_both (look_both (look_both (look_both (look_both (look_both (look_both (look_both (look_both (look_both (look_both (look_both (look_both (look_both (look_both (look_both lw0 lw1) lw2) lw3) lw4) lw5) lw6) lw7) lw8) lw9) lw10) lw11) lw12) lw13) lw14) lw15) lw16) lw17) lw18)
end Mine
set_option maxRecDepth 100000
set_option maxHeartbeats 0
namespace Mine
open PySem PySem.W PySem.Calls PyProof.Rows
theorem hdefL : defOf qL rowL.name = some (dL, []) := by kernel_rfl
theorem hpL : rowL.prog.theDef rowL.name = some (dL.params, dL.body, dL.scope) := by kernel_rfl
theorem okL : (chainsOk qL && opensWell rowL.prog && (frees rowL.toRowW && rowL.within.isEmpty)) = true := by kernel_rfl
theorem witL : rowL.toRowW.promised := ⟨[.list [.int 1]], by decide +kernel, by decide +kernel⟩
theorem bareL : rowL.prog.bare := ⟨rfl, rfl, rfl, rfl, rfl, by decide +kernel⟩
noncomputable def KeptL (w : World) (h : Heap) : Prop := ∀ a o, (H1 w.params).get? a = some o → h.get? a = some o
theorem openL (call : WalkO qL looseL (fun _ _ => True) KeptL rowL.toRowW dL [] fun f vs => PySem.call f vs) : PySem.Challenge.rw_xw0354_01.Holds :=
 holds_law lawSaid fun _ => holds_open (r := rowL) leftT (fun w s e a o ho => by rw [show s.heap = H1 w.params from e]; exact ho) (fun w h h' K k a o e => k _ _ (K a o e)) (fun _ _ => trivial) (fun _ _ _ _ _ => trivial)
  hdefL hpL (by kernel_rfl) (fun _ _ => recFacts_nil rfl) (by rfl) lcT okL bareL witL call
end Mine
set_option maxRecDepth 100000
set_option genInjectivity false
set_option genSizeOf false
namespace Mine
open PySem PySem.W PySem.Calls PyProof.Rows
section
noncomputable def dec : Code → Bool
 | .builtin id _ => Builtin.Bytes.decodersThatHold.contains id
 | _ => false
noncomputable def NoDec (Γ : Ctx) : Prop := dec Γ.code = false ∧ ∀ x ∈ Γ.below, dec x.1 = false
noncomputable def wpN {α : Type} (M : Model) (A : Around) (t : Sem α) (Q : α → Shared → Prop) (E : Value → Shared → Prop) (s : Shared) : Prop :=
 ∀ Γ p, Γ.In A → NoDec Γ → Sem.wp M Γ t (fun a _ s' => Q a s') (fun e _ s' => E e s') p s
noncomputable def codeN (M : Model) (A : Around) (c : Code) (R : Result → Shared → Prop) (s : Shared) : Prop :=
 ∀ Γ p, Γ.code = c → Γ.Below A → (∀ x ∈ Γ.below, dec x.1 = false) → wpCode M Γ R p s
section
variable {α β : Type} {M : Model} {A : Around} {E : Value → Shared → Prop} {s : Shared}
theorem wpN.of {t : Sem α} {Q : α → Shared → Prop} (h : wpAny M A t Q E s) : wpN M A t Q E s := fun Γ p hΓ _ => h Γ p hΓ
theorem codeN.of {c : Code} {R : Result → Shared → Prop} (h : codeAny M A c R s) : codeN M A c R s := fun Γ p hc hΓ _ => h Γ p hc hΓ
theorem wpN_pure {a : α} {Q : α → Shared → Prop} (h : Q a s) : wpN M A (pure a) Q E s := fun _ _ _ _ => h
theorem wpN_mono {t : Sem α} {Q Q' : α → Shared → Prop} {E' : Value → Shared → Prop} (h : wpN M A t Q E s) (hQ : ∀ a s, Q a s → Q' a s) (hE : ∀ e s, E e s → E' e s) : wpN M A t Q' E' s :=
 fun Γ p hΓ hn => Sem.wp_mono M Γ t (fun a _ s => hQ a s) (fun e _ s => hE e s) p s (h Γ p hΓ hn)
theorem wpN_bind {m : Sem α} {f : α → Sem β} {Q : β → Shared → Prop} (h : wpN M A m (fun a s' => wpN M A (f a) Q E s') E s) : wpN M A (m >>= f) Q E s := fun Γ p hΓ hn => by
 rw [Sem.wp_bind']
 exact Sem.wp_mono M Γ m (fun a p' s' h' => h' Γ p' hΓ hn) (fun _ _ _ h' => h') p s (h Γ p hΓ hn)
theorem wpN_bindA {m : Sem α} {f : α → Sem β} {Q : β → Shared → Prop} (h : wpAny M A m (fun a s' => wpN M A (f a) Q E s') E s) : wpN M A (m >>= f) Q E s := wpN_bind (wpN.of h)
theorem wpN_holding {vs : List Value} {m : Sem α} {Q : α → Shared → Prop} (h : wpN M A m Q E s) : wpN M A (holding vs m) Q E s := fun Γ p hΓ hn => by rw [Sem.wp_holding]; exact h Γ p hΓ hn
theorem wpN_onRaise {m : Sem α} {k : Value → Sem Unit} {Q : α → Shared → Prop} (h : wpN M A m Q (fun e s' => wpN M A (k e) (fun _ s'' => E e s'') E s') s) : wpN M A (m.onRaise k) Q E s := fun Γ p hΓ hn => by
 rw [Sem.wp_onRaise]
 exact Sem.wp_mono M Γ m (fun _ _ _ h' => h') (fun e p' s' h' => h' Γ p' hΓ hn) p s (h Γ p hΓ hn)
theorem wpN_standAt {pos : Pos} {Q : Unit → Shared → Prop} (h : Q () s) : wpN M A (standAt pos) Q E s := fun _ _ _ _ => h
theorem wpN_point {Q : Unit → Shared → Prop} (h : Q () s) : wpN M A point Q E s := fun _ _ _ _ => h
theorem enter_none {Γ : Ctx} (hn : NoDec Γ) (c : Code) (h : Option Value) (p : Pos) : ∀ x ∈ (Γ.enter c h p).below, dec x.1 = false := fun x hx => by
 rcases List.mem_cons.mp hx with rfl | hx
 ·exact hn.1
 ·exact hn.2 x hx
theorem wpN_run {c : Code} {h : Option Value} {Q : Flow → Shared → Prop} (hc : codeN M (A.mark h) c (fun r s' => match r with | .ok f => Q f s' | .error e => E e s') s) (hnb : h ≠ some byPass := by intro x; cases x) : wpN M A (run c h) Q E s :=
 fun Γ p hΓ hn => by rw [Sem.wp_run]; exact hc _ p rfl (hΓ.enter c h p hnb) (enter_none hn c h p)
theorem wpN_runValue {c : Code} {Q : Value → Shared → Prop} (hc : codeN M A c (fun r s' => match r with | .ok (.ret v) => Q v s' | .ok _ => False | .error e => E e s') s) : wpN M A (runValue c) Q E s :=
 fun Γ p hΓ hn => by rw [Sem.wp_runValue]; exact hc _ p rfl (hΓ.enter c none p (by intro x; cases x)) (enter_none hn c none p)
theorem wpN_call {f : Value} {pos : List Value} {kw : List (Str × Value)} {Q : Value → Shared → Prop}
  (hc : codeN M A (.call f ⟨pos, kw⟩) (fun r s' => match r with | .ok (.ret v) => Q v s' | .ok _ => False | .error e => E e s') s) : wpN M A (call f pos kw) Q E s := wpN_runValue hc
theorem codeN_of_tree {c : Code} {R : Result → Shared → Prop} (hd : dec c = false) (h : wpN M (A.under c) (M.den c) (fun fin s' => match fin with | .done f => R (.ok f) s' | .again c' => c'.quiet = true ∧ codeN M A c' R s')
   (fun e s' => R (.error e) s') s) : codeN M A c R s := fun Γ p hc hΓ hn => by
 rw [wpCode_iff_wp, hc]
 refine Sem.wp_mono M Γ _ (fun fin p' s' h' => ?_) (fun _ _ _ h' => h') p s (h Γ p (hc ▸ hΓ.in) ⟨hc ▸ hd, hn⟩)
 cases fin with
 | done f => exact h'
 | again c' => exact ⟨h'.1, h'.2 (Γ.goto c') p' rfl (hΓ.goto c') hn⟩
theorem codeN_mono {c : Code} {R R' : Result → Shared → Prop} (h : codeN M A c R s) (hR : ∀ r s, R r s → R' r s) : codeN M A c R' s := fun Γ p hc hΓ hn => wpCode_mono hR (h Γ p hc hΓ hn)
theorem wpN_rule {tag : String} {Q : Unit → Shared → Prop} (h : Q () s) : wpN M A (rule tag) Q E s := fun _ _ _ _ => h
end
section
variable {w : World} {A : Around} {E : Value → Shared → Prop} {s : Shared} {R : Result → Shared → Prop} {prog : Program}
theorem codeN_builtin {id : String} {args : Args} {b : Builtin} (hd : dec (.builtin id args) = false) (hb : entryFor table id = some b)
  (h : wpN (model prog w) (A.under (.builtin id args)) (b args)
   (fun fin s' => match fin with | .done f => R (.ok f) s' | .again c' => c'.quiet = true ∧ codeN (model prog w) A c' R s') (fun e s' => R (.error e) s') s) :
  codeN (model prog w) A (.builtin id args) R s := by
 refine codeN_of_tree hd ?_
 show wpN _ _ (match entryFor table id with | some b => b args | none => unsupported ((withoutEnding? id "#data").getD id)) _ _ s
 rw [hb]; exact h
theorem codeN_def {a : Addr} {o : Obj} {fd : FuncData} {body : List Stmt} {args : Args} {binds : List (Str × Value)}
  (hroom : A.depth < recursionLimit) (ho : s.heap.get? a = some o) (hd' : o.data = .func fd) (hlim : s.heap.NoLimit) (hcd : s.heap.CodeRec fd.code fd.qualname)
  (hbody : fd.body = .stmts body) (hbind : BindsTo s fd args binds)
  (hcell : ∀ x ∈ fd.scope.names, x.2 ≠ .cell) (hloc : ∀ x ∈ binds, fd.scope.names.lookup x.1 = some .local)
  (h : ∀ h₀, h₀.Ns s.heap.objs.size (fun x => binds.reverse.lookup x) → (∀ b o, s.heap.get? b = some o → h₀.get? b = some o) →
   wpN (model prog w) (A.deeper (callEnv fd s.heap.objs.size a)) (execs body (callEnv fd s.heap.objs.size a)) (fun f s' => R (.ok (.ret (match f with | .ret v => v | _ => .none))) s')
    (fun _ _ => False)
    { s with heap := h₀, toks := s.toks + binds.length })
  (hco : fd.scope.isCoroutine = false := by rfl) (hgen : fd.scope.isGenerator = false := by rfl) (hk : fd.scope.kind = .function := by rfl) :
  codeN (model prog w) A (.call (.ref a) args) R s := by
 refine codeN_of_tree rfl ?_
 show wpN _ A.in1 (callAny (.ref a) args) _ _ s
 simp only [callAny]
 refine wpN_bindA (wpAny_load ho ?_)
 obtain ⟨c, oc, vs, tq, hc, hoc, hdc, hq⟩ := hcd
 simp only [hd', callFunction, hco, hgen, hbody, hc]
 refine wpN_bindA (m := field (.ref c) 1) (wpAny_field hoc hdc hq (wpN_bindA (wpAny_pure ?_)))
 refine wpN_bindA (hbind _ _ _ _ ?_)
 refine wpN_bindA (wpAny_newFunctionEnv hcell hloc (fun h₀ hns₀ hsb₀ => ?_) hk)
 refine wpN_bindA (wpAny_enterFrame (hlim.fresh _ hsb₀) hroom (wpN_pure (And.intro rfl ?_)))
 refine codeN_of_tree rfl ?_
 have hb := h h₀ hns₀ fun b o e => hsb₀.extBut b o (Nat.ne_of_lt (Heap.lt_size e)) (Heap.get?_push_of_some _ e)
 rw [← hc]
 show wpN _ (A.deeper (callEnv fd s.heap.objs.size a)) (do point; match ← (execs body (callEnv fd s.heap.objs.size a)).onRaise (leaving (callEnv fd s.heap.objs.size a)) with | .ret v => ret v | _ => ret .none) _ _ _
 refine wpN_bind (wpN_point (wpN_bind (wpN_onRaise (wpN_mono hb (fun f s' h' => ?_) fun _ _ h' => h'.elim))))
 cases f <;> exact wpN_pure h'
end
end
end Mine
set_option maxRecDepth 100000
set_option maxHeartbeats 0
namespace Mine
open PySem PySem.W PySem.Calls PyProof.Rows
theorem caller_none : NoDec (⟨.builtin "claim.caller" {}, none, none, [], none⟩ : Ctx) := ⟨by show Builtin.Bytes.decodersThatHold.contains "claim.caller" = false; decide +kernel, fun x hx => by simp at hx⟩
theorem threadN {prog : Program} {w : World} {t : Sem Fin} {s : Shared} {R : Result → Shared → Prop} (hreg : s.asleep)
  (h : wpN (model prog w) callerA t (fun fin s' => ∃ f, fin = .done f ∧ (R (.ok f) s' ∧ leftWithCleanup s'.gens = false)) (fun _ _ => False) s) :
  ∃ n r s' s'', runN (denote table) prog w n s ⟨t, .builtin "claim.caller" {}, default, []⟩ = .halted (outcomeOf r) s' ∧
   schedN (denote table) prog w n (.single s ⟨t, .builtin "claim.caller" {}, default, []⟩) = .halted (outcomeOf r) s' ∧ s'.forget = s''.forget ∧ R r s'' := by
 have h1 : Sem.wp (model prog w) ⟨.builtin "claim.caller" {}, none, none, [], none⟩ t (Sem.finPost (model prog w) ⟨.builtin "claim.caller" {}, none, none, [], none⟩ fun r s' => R r s' ∧ leftWithCleanup s'.gens = false) (fun e _ s' => R (.error e) s' ∧ leftWithCleanup s'.gens = false) default s := by
  refine Sem.wp_mono _ _ t (fun fin p' s' h' => ?_) (fun _ _ _ h' => h'.elim) default s (h _ default caller_in caller_none)
  obtain ⟨f, rfl, hf⟩ := h'
  exact hf
 obtain ⟨n, r, s₁, s₂, hs, hn, hfo, hR⟩ := wp_halts_full (M := model prog w) (R := R) hreg h1
 exact ⟨n, r, s₂, s₁, hn, hs, hfo, hR⟩
noncomputable abbrev treeL (vs : List Value) : Sem Fin := do match ← nsGet mainNs rowL.name with
 | some f => do ret (← PySem.call f vs)
 | none => unsupported "claim.caller:no-such-global"
noncomputable abbrev cL : ClaimW := rowL.toRowW.claim
noncomputable abbrev WalkL : Prop :=
 ∀ (w : World) (s₀ s₁ : Shared) (mg mb : Str → Option Value), Ground qL looseL rowL.toRowW.records (fun _ _ => True) w s₀ mg mb s₁.heap → KeptL w s₁.heap → ∀ (a : Addr) (o : Obj) (pm cd doc dV kV : Value), s₁.heap.get? a = some o →
  o.data = .func { docDef dL.name dL.params dL.body dL.scope pm cd doc with defaults := dV, kwdefaults := kV } → s₁.heap.CodeRec cd dL.name → mg dL.name = some (.ref a) → s₁.gens = #[] →
  ∀ (args : List WData) (vals : List Value) (as : List Addr), cL.pre args = true → ReadsAllW rowL.toRowW.records (classAt s₀.heap) s₁.heap vals args as → (∀ a ∈ as, (a == sysModules) = false) →
   wpN (model rowL.toRowW.prog w) callerA (PySem.call (.ref a) vals) (fun v s' => GoodWG cL (classAt s₀.heap) (ExcName.means s₀.heap) args s₁ (.ok (.ret v)) s') (fun _ _ => False) s₁
theorem callFromL {w : World} {s : Shared} {free : Addr → Prop} {gens : Prop} {kept : Heap → Prop} (hz : s.asleep) (hgens : s.gens = #[])
  (hspec : ∀ args, cL.pre args = true → WData.layableAll args = true → ∀ ord : List DictEntry → List DictEntry, (∀ l, (ord l).Perm l) →
   ∃ vs s₁, layAllW cL.records (classAt s.heap) w.params ord args s = some (vs, s₁) ∧
    wpN (model cL.prog w) callerA (treeL vs) (fun fin s' => ∃ f, fin = .done f ∧ (cL.Ends s args vs s₁ (.ok f) s' ∧ s'.os = s.os ∧ AllBare s'.gens ∧ kept s'.heap)) (fun _ _ => False) s₁) :
  cL.CallFrom (fun vs => ⟨treeL vs, .builtin "claim.caller" {}, default, []⟩) w free gens kept s := by
 intro args hpre hlay ord hord
 obtain ⟨vs, s₁, hlaid, hcode⟩ := hspec args hpre hlay ord hord
 have hal := layAllW_rest _ _ _ hlaid
 obtain ⟨k, r, s', s'', hrun, hsched, hfo, hcase, hos, hkp⟩ := threadN (prog := cL.prog) (w := w) (t := treeL vs) (s := s₁)
  (R := fun r s' => cL.Ends s args vs s₁ r s' ∧ s'.os = s.os ∧ kept s'.heap) (Shared.asleep_of_life hal.2.2.2 hz)
  (wpN_mono hcode (by
   rintro fin s' ⟨f, e, h1, h2, h3, h4⟩
   exact ⟨f, e, ⟨h1, h2, h4⟩, leftWithCleanup_false_of_bare h3⟩) fun _ _ h => h)
 obtain ⟨eh, _, _, eo, _⟩ := Shared.forget_eq hfo
 have hcase := hcase.congr eh
 rw [← eh] at hkp
 rw [← eo] at hos
 have hlife : s'.heap.life = s.heap.life := (runN_life _ _ _ hrun).trans hal.2.2.2
 refine ⟨vs, s₁, hlaid, k, _, s', hsched, ?_, (fun _ i x hx => by rw [hgens] at hx; simp at hx), hkp, by rw [hlife], Shared.rest_eq hos⟩
 rcases hcase with ⟨v, rfl, d1, d2, d3, d4, d5⟩ | ⟨e, ob, cls, rfl, d1, d2, d3, d4, d5⟩
 ·exact .inl ⟨v, rfl, d1, d2, d3, fun b o y _ => d4 b o y, d5⟩
 ·exact .inr ⟨e, ob, cls, rfl, d1, d2, d3, d4, fun b o y _ => d5 b o y⟩
theorem openN (call : WalkL) : PySem.Challenge.rw_xw0354_01.Holds := by
 refine holds_law lawSaid fun k1 => ?_
 have hkw : kwWritten? dL.params.kwonlyargs dL.params.kw_defaults = some [] := by kernel_rfl
 obtain ⟨ok, k5⟩ := Bool.and_eq_true_iff.mp okL
 obtain ⟨hch, o1⟩ := Bool.and_eq_true_iff.mp ok
 obtain ⟨k5, k6⟩ := Bool.and_eq_true_iff.mp k5
 obtain ⟨hsame, hu, ha, hap, hm⟩ := frees_parts k5
 have hRf : ∀ s : Shared, True → RecFacts rowL.toRowW.records s.heap := fun s _ => recFacts_nil rfl
 have hYk : ∀ w h h', KeptL w h → (∀ b o, h.get? b = some o → h'.get? b = some o) → KeptL w h' := fun w h h' K k a o e => k _ _ (K a o e)
 refine ⟨k1, witL, ⟨⟨bareL, o1, List.map_eq_nil_iff.mpr hm⟩, witL.witness, fun w => ⟨(leftT.behind (XP := fun _ _ => True) (fun _ _ => trivial) hch w).1, fun s' hs' => ?_⟩⟩⟩
 obtain ⟨s₀, hf, hg0, s, hT, hz, hgens, hg, G00, y⟩ := (leftT.behind (XP := fun _ h => RecFacts rowL.toRowW.records h) (fun s _ => hRf s trivial) hch w).2 s' hs'
 have G0 : Ground qL looseL [] (fun _ _ => True) w s (s.heap.nsMap mainGlobals) (s.heap.nsMap builtinsNs) s.heap := ⟨G00.T, G00.B, G00.D, G00.TE, G00.TD, G00.W, trivial, G00.cls, G00.has, G00.apart, G00.once, G00.K⟩
 have RF := G00.X
 have hT' := hT
 refine ⟨s₀, hf, hg0, s, hT, ?_, RF.1, RF.2.1, ?_⟩
 ·intro n hn
  obtain rfl : n = rowL.name := by split at hn <;> simp_all
  exact pinned_of_view hg G0 hdefL hpL hkw
 have hgens : s.gens = #[] := Array.eq_empty_of_size_eq_zero (beq_iff_eq.mp hgens)
 have G : Ground qL looseL rowL.toRowW.records (fun _ _ => True) w s _ _ s.heap := RF.ground G0
 refine callFromL hz hgens fun args hpre hlay ord hord => ?_
 obtain ⟨⟨vs, s₁⟩, hlaid⟩ := Option.isSome_iff_exists.mp (layAllW_isSome (P := w.params) (ord := ord) G.has args rowL.toRowW.args s (pre_splitW hpre).1)
 have keeps := layAllW_keeps _ _ _ hlaid
 have hal := layAllW_rest _ _ _ hlaid
 obtain ⟨as, hrd, hin, hold⟩ := reads_layAllW hord _ _ _ hlaid hlay s₁.heap (fun _ _ e => e)
 have L : Laid rowL.toRowW.records w s s₁ args vs as := ⟨⟨ord, hord, hlaid⟩, hrd, hin, hold, keeps, hal.1.trans hgens, hal.2.2.1⟩
 have G₁ := G.keeps (fun _ _ _ _ _ => trivial) keeps
 have Y : KeptL w s₁.heap := hYk _ _ _ (fun a o ho => by rw [show s.heap = H1 w.params from y]; exact ho) keeps
 obtain ⟨a, o, pm, cd, doc, dV, kV, h1, h2, h3, h4, h5⟩ := G₁.fn hdefL
 have hc := call w s s₁ _ _ G₁ Y a o pm cd doc dV kV h2 h3 h4 (defOf_name hdefL ▸ h1) L.gens args vs as hpre L.reads (L.low G.low)
 have hi := ident_freeW hu ha hap
 have hwi : cL.within = [] := List.isEmpty_iff.mp k6
 refine ⟨vs, s₁, hlaid, wpN_bindA (wpAny_nsGet G₁.T.g ?_)⟩
 rw [h1]
 refine wpN_bind (wpN_mono hc (fun v s' g => wpN_pure ?_) fun _ _ h => h)
 have z := g.laid (c := cL) hsame hwi hi L
 exact ⟨_, rfl, z.1, z.2.1, z.2.2, fun q => ⟨namesKept_of hT' hg _ keeps g.2.1.old, noTable (writes := false) rfl q⟩⟩
end Mine
set_option genInjectivity false
set_option genSizeOf false
namespace Mine
section
open PySem
inductive Tr (α : Type) where
 | nil
 | node (v : Option α) (l r : Tr α)
noncomputable def br {α : Type} (b : Bool) (x y : α) : α := b.casesOn y x
noncomputable def an (a b : Bool) : Bool := a.casesOn false b
noncomputable def Tr.get {α : Type} (t : Tr α) : Nat → Option α :=
 @Tr.rec α (fun _ => Nat → Option α) (fun _ => none) (fun v _ _ l r i => br (Nat.beq i 0) v (br (Nat.beq (Nat.mod i 2) 1) (l (Nat.div i 2)) (r (Nat.sub (Nat.div i 2) 1)))) t
noncomputable def Tr.set {α : Type} (n : Nat) : Tr α → Nat → α → Tr α :=
 @Nat.rec (fun _ => Tr α → Nat → α → Tr α) (fun t _ _ => t)
  (fun _ ih t i x => @Tr.casesOn α (fun _ => Tr α) t
   (br (Nat.beq i 0) (.node (some x) .nil .nil) (br (Nat.beq (Nat.mod i 2) 1) (.node none (ih .nil (Nat.div i 2) x) .nil) (.node none .nil (ih .nil (Nat.sub (Nat.div i 2) 1) x))))
   (fun v l r => br (Nat.beq i 0) (.node (some x) l r) (br (Nat.beq (Nat.mod i 2) 1) (.node v (ih l (Nat.div i 2) x) r) (.node v l (ih r (Nat.sub (Nat.div i 2) 1) x))))) n
noncomputable abbrev Pt := Int × Int
inductive XI where
 | k (i : Int)
 | v (d : Nat) (f : Pt → Int)
inductive XB where
 | k (l : List UInt8)
 | v (d : Nat) (f : Pt → List UInt8)
inductive XV where
 | none
 | bool (b : Bool)
 | int (i : XI)
 | str (s : Nat)
 | bytes (b : XB)
 | own (i : Nat)
 | sta (a : Addr)
 | bi (id : Nat)
 | ty (n : Nat)
inductive XO where
 | inst (c : Addr) (d : Nat)
 | flds (fs : List (Nat × XV))
 | list (xs : List XV)
 | tup (xs : List XV)
 | idict (es : List (Int × XV))
 | sdict (es : List (Nat × XV))
 | barr
 | rng (a b : XI)
structure XSt where
 cs : List (List Pt)
 hp : Tr XO
 nx : Nat
 loc : List (Nat × XV)
inductive X where
 | k (v : XV)
 | loc (n : Nat)
 | glb (n : Nat)
 | and_ (es : X)
 | or_ (es : X)
 | bin (op : Operator) (a b : X)
 | neg (a : X)
 | not_ (a : X)
 | ife (c a b : X)
 | cmp (op : CmpOp) (a b : X)
 | cmp2 (op op' : CmpOp) (a b c : X)
 | tup (es : X)
 | lst (es : X)
 | dic
 | dics (ns vs : List Nat)
 | tg (f x y : Nat)
 | sub (a i : X)
 | sll (a lo : X)
 | slh (a hi : X)
 | slb (a lo hi : X)
 | att (a : X) (n : Nat)
 | met (a : X) (n : Nat) (es : X)
 | cal (f es : X)
 | lcp (e : Option Nat) (x : Nat) (it : X)
 | nil
 | cons (h t : X)
 | ex (e : X)
 | asg (t e : X)
 | aug (n : Nat) (op : Operator) (e : X)
 | ift (c a b : X)
 | for_ (t it body : X)
 | whl (c : X)
 | ret0
 | ret (e : X)
 | rai
noncomputable def look {α : Type} (n : Nat) (l : List (Nat × α)) : Option α := @List.rec (Nat × α) (fun _ => Option α) none (fun p _ ih => br (Nat.beq p.1 n) (some p.2) ih) l
noncomputable def put {α : Type} (n : Nat) (x : α) (l : List (Nat × α)) : List (Nat × α) := @List.rec (Nat × α) (fun _ => List (Nat × α)) [(n, x)] (fun p r ih => br (Nat.beq p.1 n) ((p.1, x) :: r) (p :: ih)) l
noncomputable def lookI {α : Type} (n : Int) (l : List (Int × α)) : Option α := @List.rec (Int × α) (fun _ => Option α) none (fun p _ ih => br (W.Z.eqB p.1 n) (some p.2) ih) l
noncomputable def putI {α : Type} (n : Int) (x : α) (l : List (Int × α)) : List (Int × α) := @List.rec (Int × α) (fun _ => List (Int × α)) [(n, x)] (fun p r ih => br (W.Z.eqB p.1 n) ((p.1, x) :: r) (p :: ih)) l
noncomputable def delI {α : Type} (n : Int) (l : List (Int × α)) : List (Int × α) := @List.rec (Int × α) (fun _ => List (Int × α)) [] (fun p r ih => br (W.Z.eqB p.1 n) r (p :: ih)) l
noncomputable def iop (f : Int → Int → Int) : XI → XI → Option XI
 | .k a, .k b => some (.k (f a b))
 | .k a, .v d g => some (.v d fun p => f a (g p))
 | .v d g, .k b => some (.v d fun p => f (g p) b)
 | .v d g, .v e h => br (Nat.beq d e) (some (.v d fun p => f (g p) (h p))) none
inductive Tst where
 | k (b : Bool)
 | v (d : Nat) (f : Pt → Bool)
noncomputable def icmp (f : Int → Int → Bool) : XI → XI → Option Tst
 | .k a, .k b => some (.k (f a b))
 | .k a, .v d g => some (.v d fun p => f a (g p))
 | .v d g, .k b => some (.v d fun p => f (g p) b)
 | .v d g, .v e h => br (Nat.beq d e) (some (.v d fun p => f (g p) (h p))) none
noncomputable def keep (f : Pt → Bool) (l : List Pt) : List Pt := @List.rec Pt (fun _ => List Pt) [] (fun p _ ih => br (f p) (p :: ih) ih) l
noncomputable def nthL (l : List (List Pt)) : Nat → List Pt := @List.rec (List Pt) (fun _ => Nat → List Pt) (fun _ => []) (fun x _ ih n => n.casesOn x ih) l
noncomputable def setL (l : List (List Pt)) : Nat → List Pt → List (List Pt) := @List.rec (List Pt) (fun _ => Nat → List Pt → List (List Pt)) (fun _ _ => []) (fun y r ih n x => n.casesOn (x :: r) fun n => y :: ih n x) l
noncomputable def tst (t : Option Tst) (σ : XSt) (k : Bool → XSt → Bool) : Bool := match t with
 | none => false
 | some (.k b) => k b σ
 | some (.v d f) => br (Nat.blt d 4) (match keep f (nthL σ.cs d) with
  | [] => k false σ
  | p :: ps => match keep (fun p => !f p) (nthL σ.cs d) with
   | [] => k true σ
   | q :: qs => an (k true { σ with cs := setL σ.cs d (p :: ps) }) (k false { σ with cs := setL σ.cs d (q :: qs) })) false
noncomputable def allB (f : Pt → Bool) (l : List Pt) : Bool := @List.rec Pt (fun _ => Bool) true (fun p _ ih => br (f p) ih false) l
noncomputable def allI (f : Int → Bool) (x : XI) (σ : XSt) : Bool := match x with
 | .k a => f a
 | .v d g => br (Nat.blt d 4) (allB (fun p => f (g p)) (nthL σ.cs d)) false
noncomputable def short {α : Type} (l : List α) : Bool := Nat.blt l.length 900
noncomputable def allBy (x : XB) (σ : XSt) : Bool := match x with
 | .k a => short a
 | .v d g => br (Nat.blt d 4) (allB (fun p => short (g p)) (nthL σ.cs d)) false
noncomputable def bytesEq : List UInt8 → List UInt8 → Bool
 | [], [] => true
 | a :: r, b :: q => br (Nat.beq a.toNat b.toNat) (bytesEq r q) false
 | _, _ => false
noncomputable def bcmp : XB → XB → Option Tst
 | .k a, .k b => some (.k (bytesEq a b))
 | .k a, .v d g => some (.v d fun p => bytesEq a (g p))
 | .v d g, .k b => some (.v d fun p => bytesEq (g p) b)
 | .v d g, .v e h => br (Nat.beq d e) (some (.v d fun p => bytesEq (g p) (h p))) none
noncomputable def bop (f : List UInt8 → List UInt8 → List UInt8) : XB → XB → Option XB
 | .k a, .k b => some (.k (f a b))
 | .k a, .v d g => some (.v d fun p => f a (g p))
 | .v d g, .k b => some (.v d fun p => f (g p) b)
 | .v d g, .v e h => br (Nat.beq d e) (some (.v d fun p => f (g p) (h p))) none
noncomputable def blen : XB → XI
 | .k a => .k (Int.ofNat a.length)
 | .v d g => .v d fun p => Int.ofNat (g p).length
noncomputable def bfun (f : List UInt8 → Int → List UInt8) : XB → XI → Option XB
 | .k a, .k b => some (.k (f a b))
 | .k a, .v d g => some (.v d fun p => f a (g p))
 | .v d g, .k b => some (.v d fun p => f (g p) b)
 | .v d g, .v e h => br (Nat.beq d e) (some (.v d fun p => f (g p) (h p))) none
noncomputable def allocX (o : XO) (σ : XSt) (k : Nat → XSt → Bool) : Bool := br (Nat.blt σ.nx 2000) (k σ.nx { σ with hp := Tr.set 12 σ.hp σ.nx o, nx := Nat.succ σ.nx }) false
noncomputable def storeX (i : Nat) (o : XO) (σ : XSt) : XSt := { σ with hp := Tr.set 12 σ.hp i o }
structure FI where
 params : List Nat
 dflts : List XV
 body : X
inductive CA where
 | fn (a : Addr)
 | prop (a : Addr)
structure CI where
 init : Addr
 attrs : List (Nat × Option CA)
structure Tab where
 funs : Tr FI
 clss : Tr CI
 globs : Tr XV
 nAppend : Nat
 nRemove : Nat
 nPop : Nat
 tabs : Tr (List ((Nat × Nat) × Nat))
noncomputable def bindP : List Nat → List XV → List XV → Option (List (Nat × XV))
 | [], [], _ => some []
 | p :: ps, x :: xs, ds => match bindP ps xs ds with
  | some r => some ((p, x) :: r)
  | none => none
 | p :: ps, [], ds => match Nat.ble (ps.length + 1) ds.length, ds.drop (ds.length - (ps.length + 1)) with
  | true, d :: _ => match bindP ps [] ds with
   | some r => some ((p, d) :: r)
   | none => none
  | _, _ => none
 | [], _ :: _, _ => none
inductive Fl where
 | next
 | ret (v : XV)
noncomputable abbrev KV := XV → XSt → Bool
noncomputable abbrev KB := Bool → XSt → Bool
noncomputable abbrev KL := List XV → XSt → Bool
noncomputable abbrev KF := Fl → XSt → Bool
noncomputable abbrev KU := XSt → Bool
inductive Src where
 | tp (j i : Nat)
 | rg (a : Int) (n : Nat)
structure Ev where
 e : X → XSt → KV → Bool
 t : X → XSt → KB → Bool
 bo : Bool → X → XSt → KV → Bool
 bt : Bool → X → XSt → KB → Bool
 es : X → XSt → KL → Bool
 s : X → XSt → KF → Bool
 ss : X → XSt → KF → Bool
 c : Addr → List XV → XSt → KV → Bool
 as : X → List XV → XSt → KU → Bool
 a : X → XV → XSt → KU → Bool
 fl : X → X → Src → XSt → KF → Bool
 cl : Option Nat → Option Nat → List XV → List XV → XSt → KL → Bool
 eq : XV → XV → XSt → KB → Bool
 el : List XV → List XV → XSt → KB → Bool
 ct : XV → List XV → XSt → KB → Bool
 rm : XV → List XV → XSt → (Option (List XV) → XSt → Bool) → Bool
noncomputable def truthX (v : XV) (σ : XSt) (k : KB) : Bool := match v with
 | .bool b => k b σ
 | .none => k false σ
 | .int i => tst (icmp (fun a b => !W.Z.eqB a b) i (.k 0)) σ k
 | _ => false
noncomputable def small (i : Int) : Bool := Nat.blt i.natAbs 9223372036854775808
noncomputable def powB (a b : Int) : Bool := an (W.Z.ltB 0 b) (an (W.Z.ltB 1 a) (!Builtin.Int.intTooBig (((Builtin.Int.intBits a : Nat) : Int) * b)))
noncomputable def intBin (op : Operator) (a b : XI) (σ : XSt) : Option XI := match op with
 | .Add => iop Int.add a b
 | .Sub => iop Int.sub a b
 | .Mult => br (allI small b σ) (iop Int.mul a b) (br (allI small a σ) (iop Int.mul a b) none)
 | .Pow => match a with
  | .k m => match b with
   | .k n => br (powB m n) (some (.k (m ^ n.toNat))) none
   | _ => none
  | _ => none
 | .Mod => match b with
  | .k m => br (W.Z.ltB 0 m) (iop Int.fmod a b) none
  | _ => none
 | .FloorDiv => match b with
  | .k m => br (W.Z.ltB 0 m) (br (Nat.blt m.natAbs 1073741824) (iop Int.fdiv a b) none) none
  | _ => none
 | .BitAnd => iop Builtin.bitAnd a b
 | .BitOr => iop Builtin.bitOr a b
 | _ => none
noncomputable def repX (n : Int) (xs : List XV) : Option (List XV) := br (W.Z.eqB n 0) (some []) (br (W.Z.eqB n 1) (some xs) none)
noncomputable def binX (op : Operator) (a b : XV) (σ : XSt) (k : KV) : Bool := match a with
 | .int x => match b with
  | .int y => match intBin op x y σ with
   | some z => k (.int z) σ
   | none => false
  | _ => false
 | .bytes x => match b, op with
  | .bytes y, .Add => match bop List.append x y with
   | some z => br (allBy z σ) (k (.bytes z) σ) false
   | none => false
  | _, _ => false
 | .own i => match op with
  | .Add => match b with
   | .own j => match σ.hp.get i, σ.hp.get j with
    | some (.list xs), some (.list ys) => br (short (xs ++ ys)) (allocX (.list (xs ++ ys)) σ fun n σ => k (.own n) σ) false
    | some (.tup (x :: xs)), some (.tup (y :: ys)) => br (short ((x :: xs) ++ (y :: ys))) (allocX (.tup ((x :: xs) ++ (y :: ys))) σ fun n σ => k (.own n) σ) false
    | _, _ => false
   | _ => false
  | .Mult => match b, σ.hp.get i with
   | .int (.k n), some (.list xs) => match repX n xs with
    | some ys => br (short xs) (allocX (.list ys) σ fun n σ => k (.own n) σ) false
    | none => false
   | _, _ => false
  | _ => false
 | _ => false
noncomputable def augX (op : Operator) (a b : XV) (k : XV → Bool) : Bool := match op, a, b with
 | .Add, .int x, .int y => match iop Int.add x y with
  | some z => k (.int z)
  | none => false
 | _, _, _ => false
noncomputable def feq (a b : XV) : Option Tst := match a with
 | .none => match b with
  | .none => some (.k true)
  | _ => none
 | .int x => match b with
  | .int y => icmp W.Z.eqB x y
  | _ => none
 | .str x => match b with
  | .str y => some (.k (Nat.beq x y))
  | _ => none
 | .bytes x => match b with
  | .bytes y => bcmp x y
  | _ => none
 | _ => none
noncomputable def eqX (ih : Ev) (a b : XV) (σ : XSt) (k : KB) : Bool := match a with
 | .own i => match b with
  | .own j => br (Nat.beq i j) false (match σ.hp.get i, σ.hp.get j with
   | some (.list xs), some (.list ys) => br (Nat.beq xs.length ys.length) (ih.el xs ys σ k) (k false σ)
   | some (.tup xs), some (.tup ys) => br (Nat.beq xs.length ys.length) (ih.el xs ys σ k) false
   | _, _ => false)
  | _ => false
 | _ => tst (feq a b) σ k
noncomputable def flat (v : XV) : Bool := match v with
 | .int _ => true
 | .str _ => true
 | _ => false
noncomputable def isRef (v : XV) : Bool := match v with
 | .own _ => true
 | .sta _ => true
 | _ => false
noncomputable def isNone (v : XV) : Bool := match v with
 | .none => true
 | _ => false
noncomputable def ltX (f : Int → Int → Bool) (a b : XV) (σ : XSt) (k : KB) : Bool := match a with
 | .int x => match b with
  | .int y => tst (icmp f x y) σ k
  | _ => false
 | _ => false
noncomputable def inX (ih : Ev) (a b : XV) (σ : XSt) (k : KB) : Bool := match b with
 | .own j => match σ.hp.get j with
  | some (.list xs) => ih.ct a xs σ k
  | some (.tup xs) => ih.ct a xs σ k
  | some (.idict es) => match a with
   | .int (.k n) => k (lookI n es).isSome σ
   | _ => false
  | _ => false
 | _ => false
noncomputable def gtB (a b : Int) : Bool := W.Z.ltB b a
noncomputable def geB (a b : Int) : Bool := W.Z.leB b a
noncomputable def cmpX (ih : Ev) (op : CmpOp) (a b : XV) (σ : XSt) (k : KB) : Bool := match op with
 | .Eq => ih.eq a b σ k
 | .NotEq => ih.eq a b σ fun q σ => k (!q) σ
 | .Is => br (isNone b) (k (isNone a) σ) false
 | .IsNot => br (isNone b) (k (!isNone a) σ) false
 | .In => inX ih a b σ k
 | .NotIn => inX ih a b σ fun q σ => k (!q) σ
 | .Lt => ltX W.Z.ltB a b σ k
 | .LtE => ltX W.Z.leB a b σ k
 | .Gt => ltX gtB a b σ k
 | .GtE => ltX geB a b σ k
noncomputable def idxL {α : Type} (l : List α) : Nat → Option α := @List.rec α (fun _ => Nat → Option α) (fun _ => none) (fun x _ ih n => n.casesOn (some x) ih) l
noncomputable def atX (n : Int) (xs : List XV) : Option XV := br (W.Z.leB 0 n) (br (W.Z.ltB n 1000000) (idxL xs n.toNat) none) none
noncomputable def itemX (o i : XV) (σ : XSt) (k : KV) : Bool := match o, i with
 | .own j, .int (.k n) => match σ.hp.get j with
  | some (.list xs) => match atX n xs with
   | some x => k x σ
   | none => false
  | some (.tup xs) => match atX n xs with
   | some x => k x σ
   | none => false
  | some (.idict es) => match lookI n es with
   | some x => k x σ
   | none => false
  | _ => false
 | .own j, .str s => match σ.hp.get j with
  | some (.sdict es) => match look s es with
   | some x => k x σ
   | none => false
  | _ => false
 | _, _ => false
noncomputable def attrX (T : Tab) (ih : Ev) (o : XV) (n : Nat) (σ : XSt) (k : KV) : Bool := match o with
 | .own i => match σ.hp.get i with
  | some (.inst c d) => match T.clss.get c with
   | some ci => match σ.hp.get d with
    | some (.flds fs) => match look n ci.attrs with
     | some none => match look n fs with
      | some x => k x σ
      | none => false
     | some (some (.prop a)) => ih.c a [o] σ k
     | _ => false
    | _ => false
   | _ => false
  | _ => false
 | _ => false
noncomputable def setAttrX (T : Tab) (o : XV) (n : Nat) (x : XV) (σ : XSt) (k : KU) : Bool := match o with
 | .own i => match σ.hp.get i with
  | some (.inst c d) => match T.clss.get c with
   | some ci => match σ.hp.get d with
    | some (.flds fs) => match look n ci.attrs with
     | some none => br (short fs) (k (storeX d (.flds (put n x fs)) σ)) false
     | _ => false
    | _ => false
   | _ => false
  | _ => false
 | _ => false
noncomputable def setV (n : Nat) (x : XV) (l : List XV) : List XV := @List.rec XV (fun _ => Nat → List XV) (fun _ => []) (fun y r ih n => n.casesOn (x :: r) fun n => y :: ih n) l n
noncomputable def setItemX (o i x : XV) (σ : XSt) (k : KU) : Bool := match o, i with
 | .own j, .int (.k n) => match σ.hp.get j with
  | some (.idict es) => br (short es) (k (storeX j (.idict (putI n x es)) σ)) false
  | some (.list xs) => br (an (W.Z.leB 0 n) (W.Z.ltB n (Int.ofNat xs.length))) (br (short xs) (k (storeX j (.list (setV n.toNat x xs)) σ)) false) false
  | _ => false
 | _, _ => false
noncomputable def stepRm (ih : Ev) (x : XV) (xs : List XV) (σ : XSt) (k : Option (List XV) → XSt → Bool) : Bool := match xs with
 | [] => br (flat x) (k none σ) false
 | y :: r => tst (feq y x) σ fun b σ => ih.rm x r σ fun o σ => k (br b (some r) (o.casesOn none fun r' => some (y :: r'))) σ
noncomputable def tget (a b : Nat) (es : List ((Nat × Nat) × Nat)) : XV := @List.rec ((Nat × Nat) × Nat) (fun _ => XV) .none (fun p _ ih => br (Nat.beq p.1.1 a) (br (Nat.beq p.1.2 b) (.str p.2) ih) ih) es
inductive Cal where
 | fn (a : Addr)
 | app
 | rem
 | pop
noncomputable def getM (T : Tab) (o : XV) (n : Nat) (σ : XSt) : Option Cal := match o with
 | .own i => match σ.hp.get i with
  | some (.inst c d) => match T.clss.get c with
   | some ci => match σ.hp.get d with
    | some (.flds fs) => match look n ci.attrs with
     | some (some (.fn a)) => match look n fs with
      | none => some (.fn a)
      | some _ => none
     | _ => none
    | _ => none
   | _ => none
  | some (.list _) => br (Nat.beq n T.nAppend) (some .app) (br (Nat.beq n T.nRemove) (some .rem) none)
  | some (.idict _) => br (Nat.beq n T.nPop) (some .pop) none
  | _ => none
 | _ => none
noncomputable def callM (ih : Ev) (f : Cal) (o : XV) (args : List XV) (σ : XSt) (k : KV) : Bool := match f with
 | .fn a => ih.c a (o :: args) σ k
 | .app => match o, args with
  | .own i, [x] => match σ.hp.get i with
   | some (.list xs) => br (short xs) (k .none (storeX i (.list (xs ++ [x])) σ)) false
   | _ => false
  | _, _ => false
 | .rem => match o, args with
  | .own i, [x] => match σ.hp.get i with
   | some (.list xs) => br (short xs) (ih.rm x xs σ fun o σ => match o with
    | some ys => k .none (storeX i (.list ys) σ)
    | none => false) false
   | _ => false
  | _, _ => false
 | .pop => match o, args with
  | .own i, [.int (.k m)] => match σ.hp.get i with
   | some (.idict es) => br (short es) (match lookI m es with
    | some x => k x (storeX i (.idict (delI m es)) σ)
    | none => false) false
   | _ => false
  | _, _ => false
noncomputable def rangeBytes (a b : Int) : List UInt8 := (List.range (b - a).toNat).map fun i => UInt8.ofNat (a.toNat + i)
noncomputable def rngB : XI → XI → Option XB
 | .k a, .k b => some (.k (rangeBytes a b))
 | .k a, .v d g => some (.v d fun p => rangeBytes a (g p))
 | _, _ => none
noncomputable def intsB : List XV → Option (List UInt8)
 | [] => some []
 | .int (.k n) :: r => br (W.Z.leB 0 n) (br (W.Z.ltB n 256) (match intsB r with
  | some l => some (UInt8.ofNat n.toNat :: l)
  | none => none) none) none
 | _ => none
noncomputable def lenX (v : XV) (σ : XSt) (k : KV) : Bool := match v with
 | .bytes b => br (allBy b σ) (k (.int (blen b)) σ) false
 | .own i => match σ.hp.get i with
  | some (.list xs) => br (short xs) (k (.int (.k (Int.ofNat xs.length))) σ) false
  | some .barr => k (.int (.k 0)) σ
  | _ => false
 | _ => false
noncomputable def twoX (big : Bool) (a b : XI) (σ : XSt) (k : XI → XSt → Bool) : Bool := tst (icmp (br big gtB W.Z.ltB) b a) σ fun q σ => k (br q b a) σ
noncomputable def builtinX (id : Nat) (args : List XV) (σ : XSt) (k : KV) : Bool := match args with
 | [v] => br (Nat.beq id 2) (lenX v σ k) false
 | [.int a, .int b] => br (Nat.beq id 0) (twoX false a b σ fun x σ => k (.int x) σ) (br (Nat.beq id 1) (twoX true a b σ fun x σ => k (.int x) σ) false)
 | [.int a, .int b, .int c] => br (Nat.beq id 0) (twoX false a b σ fun x σ => twoX false x c σ fun x σ => k (.int x) σ) false
 | _ => false
noncomputable def octet (x : Int) : Bool := br (W.Z.leB 0 x) (W.Z.leB x 256) false
noncomputable def typeX (n : Nat) (args : List XV) (σ : XSt) (k : KV) : Bool := match n with
 | 0 => match args with
  | [.bool b] => k (.int (.k (br b 1 0))) σ
  | _ => false
 | 1 => match args with
  | [.bytes b] => k (.bytes b) σ
  | [.own i] => match σ.hp.get i with
   | some (.rng a b) => br (allI octet a σ) (br (allI octet b σ) (match rngB a b with
    | some l => k (.bytes l) σ
    | none => false) false) false
   | some (.list xs) => br (short xs) (match intsB xs with
    | some l => k (.bytes (.k l)) σ
    | none => false) false
   | _ => false
  | _ => false
 | 3 => match args with
  | [.int b] => allocX (.rng (.k 0) b) σ fun i σ => k (.own i) σ
  | [.int a, .int b] => allocX (.rng a b) σ fun i σ => k (.own i) σ
  | _ => false
 | _ => false
noncomputable def newX (ih : Ev) (c : Addr) (ci : CI) (args : List XV) (σ : XSt) (k : KV) : Bool :=
 allocX (.flds []) σ fun d σ => allocX (.inst c d) σ fun i σ => ih.c ci.init (.own i :: args) σ fun v σ => br (isNone v) (k (.own i) σ) false
noncomputable def callX (T : Tab) (ih : Ev) (f : XV) (args : List XV) (σ : XSt) (k : KV) : Bool := match f with
 | .sta a => match T.clss.get a with
  | some ci => newX ih a ci args σ k
  | none => ih.c a args σ k
 | .bi id => builtinX id args σ k
 | .ty n => typeX n args σ k
 | _ => false
noncomputable def rangeInts (a b : Int) : List XV := (List.range (b - a).toNat).map fun i => .int (.k (a + Int.ofNat i))
noncomputable def sameOwn : List XV → List XV → Bool
 | [], [] => true
 | .own a :: r, .own b :: q => br (Nat.beq a b) (sameOwn r q) false
 | _, _ => false
noncomputable def smallR (a b : Int) : Bool := br (W.Z.leB 0 a) (br (W.Z.leB a b) (W.Z.ltB b 900) false) false
noncomputable def nonneg (x : Int) : Bool := W.Z.leB 0 x
noncomputable def dropB (l : List UInt8) (a : Int) : List UInt8 := l.drop a.toNat
noncomputable def takeB (l : List UInt8) (a : Int) : List UInt8 := l.take a.toNat
noncomputable def slX (f : List UInt8 → Int → List UInt8) (o a : XV) (σ : XSt) (k : KV) : Bool := match o with
 | .bytes b => match a with
  | .int a => br (allBy b σ) (br (allI nonneg a σ) (match bfun f b a with
   | some r => k (.bytes r) σ
   | none => false) false) false
  | _ => false
 | _ => false
noncomputable def nameX (n : Nat) (σ : XSt) (k : KV) : Bool := match look n σ.loc with
 | some x => k x σ
 | none => false
noncomputable def globX (T : Tab) (n : Nat) (σ : XSt) (k : KV) : Bool := match T.globs.get n with
 | some x => k x σ
 | none => false
noncomputable def tupX (xs : List XV) (σ : XSt) (k : KV) : Bool := br (short xs) (allocX (.tup xs) σ fun i σ => k (.own i) σ) false
noncomputable def lstX (xs : List XV) (σ : XSt) (k : KV) : Bool := br (short xs) (allocX (.list xs) σ fun i σ => k (.own i) σ) false
noncomputable def negX (a : XV) (σ : XSt) (k : KV) : Bool := match a with
 | .int i => match iop Int.sub (.k 0) i with
  | some z => k (.int z) σ
  | none => false
 | _ => false
noncomputable def lcX (ih : Ev) (e : Option Nat) (iv : XV) (σ : XSt) (k : KV) : Bool := match iv with
 | .own i => match σ.hp.get i with
  | some (.list xs) => br (sameOwn xs xs) (br (short xs) (ih.cl e (some i) xs xs σ fun ys σ => allocX (.list ys) σ fun i σ => k (.own i) σ) false) false
  | some (.rng (.k a) (.k b)) => br (smallR a b) (ih.cl e none [] (rangeInts a b) σ fun ys σ => allocX (.list ys) σ fun i σ => k (.own i) σ) false
  | _ => false
 | _ => false
noncomputable def tgX (T : Tab) (f x y : Nat) (σ : XSt) (k : KV) : Bool := match T.globs.get f with
 | some (.sta a) => match T.tabs.get a with
  | some es => match look x σ.loc with
   | some (.str u) => match look y σ.loc with
    | some (.str v) => k (tget u v es) σ
    | _ => false
   | _ => false
  | none => false
 | _ => false
noncomputable def metX (o : Option Cal) (k : Cal → Bool) : Bool := match o with
 | some f => k f
 | none => false
noncomputable def stepE (T : Tab) (ih : Ev) (e : X) (σ : XSt) (k : KV) : Bool := match e with
 | .k v => k v σ
 | .loc n => nameX n σ k
 | .glb n => globX T n σ k
 | .and_ es => ih.bo false es σ k
 | .or_ es => ih.bo true es σ k
 | .bin op l r => ih.e l σ fun a σ => ih.e r σ fun b σ => binX op a b σ k
 | .neg x => ih.e x σ fun a σ => negX a σ k
 | .not_ x => ih.e x σ fun a σ => truthX a σ fun b σ => k (.bool !b) σ
 | .ife c a b => ih.t c σ fun q σ => br q (ih.e a σ k) (ih.e b σ k)
 | .cmp op l r => ih.e l σ fun a σ => ih.e r σ fun b σ => cmpX ih op a b σ fun q σ => k (.bool q) σ
 | .cmp2 op op' l r r' => ih.e l σ fun a σ => ih.e r σ fun b σ => cmpX ih op a b σ fun q σ => br q (ih.e r' σ fun c σ => cmpX ih op' b c σ fun q σ => k (.bool q) σ) (k (.bool false) σ)
 | .tup es => ih.es es σ fun xs σ => tupX xs σ k
 | .lst es => ih.es es σ fun xs σ => lstX xs σ k
 | .dic => allocX (.idict []) σ fun i σ => k (.own i) σ
 | .dics ns vs => allocX (.sdict (ns.zip (vs.map XV.str))) σ fun i σ => k (.own i) σ
 | .tg f x y => tgX T f x y σ k
 | .sub o i => ih.e o σ fun ov σ => ih.e i σ fun iv σ => itemX ov iv σ k
 | .sll o a => ih.e o σ fun ov σ => ih.e a σ fun av σ => slX dropB ov av σ k
 | .slh o a => ih.e o σ fun ov σ => ih.e a σ fun av σ => slX takeB ov av σ k
 | .slb o a b => ih.e o σ fun ov σ => ih.e a σ fun av σ => ih.e b σ fun bv σ => slX takeB ov bv σ fun r σ => slX dropB r av σ k
 | .att o n => ih.e o σ fun ov σ => attrX T ih ov n σ k
 | .met o n es => ih.e o σ fun ov σ => metX (getM T ov n σ) fun f => ih.es es σ fun xs σ => callM ih f ov xs σ k
 | .cal f es => ih.e f σ fun fv σ => ih.es es σ fun xs σ => callX T ih fv xs σ k
 | .lcp e _ it => ih.e it σ fun iv σ => lcX ih e iv σ k
 | _ => false
noncomputable def stepT (ih : Ev) (e : X) (σ : XSt) (k : KB) : Bool := match e with
 | .not_ x => ih.t x σ fun b σ => k (!b) σ
 | .and_ es => ih.bt false es σ k
 | .or_ es => ih.bt true es σ k
 | .ife c a b => ih.t c σ fun q σ => br q (ih.t a σ k) (ih.t b σ k)
 | .cmp op l r => ih.e l σ fun a σ => ih.e r σ fun b σ => cmpX ih op a b σ k
 | .cmp2 op op' l r r' => ih.e l σ fun a σ => ih.e r σ fun b σ => cmpX ih op a b σ fun q σ => br q (ih.e r' σ fun c σ => cmpX ih op' b c σ k) (k false σ)
 | e => ih.e e σ fun a σ => truthX a σ k
noncomputable def stepBo (ih : Ev) (stop : Bool) (es : X) (σ : XSt) (k : KV) : Bool := match es with
 | .cons x r => match r with
  | .nil => ih.e x σ k
  | _ => ih.e x σ fun a σ => truthX a σ fun b σ => br stop (br b (k a σ) (ih.bo stop r σ k)) (br b (ih.bo stop r σ k) (k a σ))
 | _ => false
noncomputable def stepBt (ih : Ev) (stop : Bool) (es : X) (σ : XSt) (k : KB) : Bool := match es with
 | .nil => k (!stop) σ
 | .cons x r => ih.t x σ fun b σ => br stop (br b (k true σ) (ih.bt stop r σ k)) (br b (ih.bt stop r σ k) (k false σ))
 | _ => false
noncomputable def stepEs (ih : Ev) (es : X) (σ : XSt) (k : KL) : Bool := match es with
 | .nil => k [] σ
 | .cons x r => ih.e x σ fun a σ => ih.es r σ fun xs σ => k (a :: xs) σ
 | _ => false
noncomputable def sameLen : X → List XV → Bool
 | .nil, [] => true
 | .cons _ ts, _ :: xs => sameLen ts xs
 | _, _ => false
noncomputable def unpX (ih : Ev) (ts : X) (x : XV) (σ : XSt) (k : KU) : Bool := match x with
 | .own j => match σ.hp.get j with
  | some (.tup xs) => br (sameLen ts xs) (ih.as ts xs σ k) false
  | some (.list xs) => br (sameLen ts xs) (ih.as ts xs σ k) false
  | _ => false
 | _ => false
noncomputable def stepA (T : Tab) (ih : Ev) (t : X) (x : XV) (σ : XSt) (k : KU) : Bool := match t with
 | .loc n => k { σ with loc := put n x σ.loc }
 | .att o n => ih.e o σ fun ov σ => setAttrX T ov n x σ k
 | .sub o i => ih.e o σ fun ov σ => ih.e i σ fun iv σ => setItemX ov iv x σ k
 | .tup ts => unpX ih ts x σ k
 | _ => false
noncomputable def stepAs (ih : Ev) (ts : X) (xs : List XV) (σ : XSt) (k : KU) : Bool := match ts with
 | .nil => match xs with
  | [] => k σ
  | _ => false
 | .cons t ts => match xs with
  | x :: xs => ih.a t x σ fun σ => ih.as ts xs σ k
  | [] => false
 | _ => false
noncomputable def forX (ih : Ev) (t body : X) (o : XV) (σ : XSt) (k : KF) : Bool := match o with
 | .own i => match σ.hp.get i with
  | some (.tup _) => ih.fl t body (.tp i 0) σ k
  | some (.list []) => k .next σ
  | some (.rng (.k a) (.k b)) => br (smallR a b) (ih.fl t body (.rg a (b - a).toNat) σ k) false
  | _ => false
 | _ => false
noncomputable def stepS (ih : Ev) (st : X) (σ : XSt) (k : KF) : Bool := match st with
 | .ex e => ih.e e σ fun v σ => br (isRef v) false (k .next σ)
 | .asg t e => ih.e e σ fun x σ => ih.a t x σ fun σ => k .next σ
 | .aug n op e => nameX n σ fun a σ => ih.e e σ fun b σ => augX op a b fun x => k .next { σ with loc := put n x σ.loc }
 | .ift c a b => ih.t c σ fun q σ => br q (ih.ss a σ k) (ih.ss b σ k)
 | .for_ t it body => ih.e it σ fun o σ => forX ih t body o σ k
 | .whl c => ih.t c σ fun q σ => br q false (k .next σ)
 | .ret0 => k (.ret .none) σ
 | .ret e => ih.e e σ fun x σ => k (.ret x) σ
 | _ => false
noncomputable def stepSs (ih : Ev) (ss : X) (σ : XSt) (k : KF) : Bool := match ss with
 | .nil => k .next σ
 | .cons s r => ih.s s σ fun f σ => match f with
  | .next => ih.ss r σ k
  | .ret v => k (.ret v) σ
 | _ => false
noncomputable def flV (f : Fl) : XV := match f with
 | .ret v => v
 | .next => .none
noncomputable def bodyX (ih : Ev) (f : FI) (args : List XV) (σ : XSt) (k : KV) : Bool := match bindP f.params args f.dflts with
 | some bs => ih.ss f.body { σ with loc := bs } fun fl σ' => k (flV fl) { σ' with loc := σ.loc }
 | none => false
noncomputable def stepC (T : Tab) (ih : Ev) (a : Addr) (args : List XV) (σ : XSt) (k : KV) : Bool := match T.funs.get a with
 | some f => bodyX ih f args σ k
 | none => false
noncomputable def isLoc (t : X) : Bool := match t with
 | .loc _ => true
 | _ => false
noncomputable def turnX (ih : Ev) (t body : X) (x : XV) (src : Src) (σ : XSt) (k : KF) : Bool := br (isLoc t) (ih.a t x σ fun σ => ih.ss body σ fun f σ => match f with
 | .next => ih.fl t body src σ k
 | .ret v => k (.ret v) σ) false
noncomputable def stepFl (ih : Ev) (t body : X) (src : Src) (σ : XSt) (k : KF) : Bool := match src with
 | .tp j i => match σ.hp.get j with
  | some (.tup xs) => match idxL xs i with
   | none => k .next σ
   | some x => turnX ih t body x (.tp j (Nat.succ i)) σ k
  | _ => false
 | .rg a n => match n with
  | 0 => k .next σ
  | n + 1 => turnX ih t body (.int (.k a)) (.rg (a + 1) n) σ k
noncomputable def eltX (T : Tab) (ih : Ev) (e : Option Nat) (x : XV) (σ : XSt) (k : KV) : Bool := match e with
 | none => allocX (.list []) σ fun i σ => k (.own i) σ
 | some n => match getM T x n σ with
  | some (.fn a) => ih.c a [x] σ k
  | _ => false
noncomputable def srcX (j : Option Nat) (all : List XV) (σ : XSt) (k : Bool) : Bool := match j with
 | none => k
 | some j => match σ.hp.get j with
  | some (.list ys) => br (sameOwn all ys) k false
  | _ => false
noncomputable def stepCl (T : Tab) (ih : Ev) (e j : Option Nat) (all xs : List XV) (σ : XSt) (k : KL) : Bool := match xs with
 | [] => k [] σ
 | x :: r => eltX T ih e x σ fun y σ => srcX j all σ (ih.cl e j all r σ fun ys σ => k (y :: ys) σ)
noncomputable def stepEl (ih : Ev) (xs ys : List XV) (σ : XSt) (k : KB) : Bool := match xs with
 | [] => match ys with
  | [] => k true σ
  | _ => false
 | x :: xs => match ys with
  | y :: ys => ih.eq x y σ fun b σ => ih.el xs ys σ fun c σ => k (an b c) σ
  | [] => false
noncomputable def stepCt (ih : Ev) (a : XV) (xs : List XV) (σ : XSt) (k : KB) : Bool := match xs with
 | [] => br (flat a) (k false σ) false
 | x :: r => tst (feq x a) σ fun b σ => ih.ct a r σ fun c σ => k (br b true c) σ
noncomputable def stepEv (T : Tab) (ih : Ev) : Ev :=
 ⟨stepE T ih, stepT ih, stepBo ih, stepBt ih, stepEs ih, stepS ih, stepSs ih, stepC T ih, stepAs ih, stepA T ih, stepFl ih, stepCl T ih, eqX ih, stepEl ih, stepCt ih, stepRm ih⟩
noncomputable def nilEv : Ev :=
 ⟨fun _ _ _ => false, fun _ _ _ => false, fun _ _ _ _ => false, fun _ _ _ _ => false, fun _ _ _ => false, fun _ _ _ => false, fun _ _ _ => false, fun _ _ _ _ => false, fun _ _ _ _ => false, fun _ _ _ _ => false,
  fun _ _ _ _ _ => false, fun _ _ _ _ _ _ => false, fun _ _ _ _ => false, fun _ _ _ _ => false, fun _ _ _ _ => false, fun _ _ _ _ => false⟩
noncomputable def ev (T : Tab) (n : Nat) : Ev := @Nat.rec (fun _ => Ev) nilEv (fun _ ih => stepEv T ih) n
noncomputable def preS (ih : Ev) : Nat → X → XSt → (X → XSt → Bool) → Bool
 | 0, xs, σ, k => k xs σ
 | n + 1, xs, σ, k => match xs with
  | .cons s r => ih.s s σ fun f σ => match f with
   | .next => preS ih n r σ k
   | .ret _ => false
  | _ => false
noncomputable abbrev Mid := X → XSt → KU → Bool
noncomputable def restX (ih : Ev) (mid : Mid) (loc : List (Nat × XV)) (k : KV) (xs : X) (σ : XSt) : Bool := match xs with
 | .cons s r => mid s σ fun σ => ih.ss r σ fun fl σ' => k (flV fl) { σ' with loc := loc }
 | _ => false
noncomputable def bodyN (ih : Ev) (f : FI) (n : Nat) (mid : Mid) (args : List XV) (σ : XSt) (k : KV) : Bool := match bindP f.params args f.dflts with
 | some bs => preS ih n f.body { σ with loc := bs } (restX ih mid σ.loc k)
 | none => false
noncomputable def midB (T : Tab) (ih : Ev) : Mid := fun s σ k => match s with
 | .asg t (.cal (.glb g) .nil) => match T.globs.get g with
  | some (.ty 2) => allocX .barr σ fun i σ => ih.a t (.own i) σ k
  | _ => false
 | _ => false
noncomputable def newN (T : Tab) (ih : Ev) (n : Nat) (mid : Mid) (c : Addr) (ci : CI) (args : List XV) (σ : XSt) (k : KV) : Bool :=
 allocX (.flds []) σ fun d σ => allocX (.inst c d) σ fun i σ => match T.funs.get ci.init with
  | some f => bodyN ih f n mid (.own i :: args) σ fun v σ => br (isNone v) (k (.own i) σ) false
  | none => false
noncomputable def midE (T : Tab) (ih : Ev) : Mid := fun s σ k => match s with
 | .asg t (.tup (.cons (.cal (.glb g) es) r)) => match T.globs.get g with
  | some (.sta c) => match T.clss.get c with
   | some ci => ih.es es σ fun xs σ => newN T ih 4 (midB T ih) c ci xs σ fun x σ => ih.es r σ fun ys σ => tupX (x :: ys) σ fun v σ => ih.a t v σ k
   | none => false
  | _ => false
 | _ => false
noncomputable def midR (T : Tab) (ih : Ev) : Mid := fun s σ k => match s with
 | .asg t (.cal (.glb g) es) => match T.globs.get g with
  | some (.sta a) => match T.funs.get a with
   | some f => ih.es es σ fun xs σ => bodyN ih f 1 (midE T ih) xs σ fun v σ => ih.a t v σ k
   | none => false
  | _ => false
 | _ => false
noncomputable def topN (T : Tab) (ih : Ev) (a : Addr) (n : Nat) (args : List XV) (σ : XSt) (k : KV) : Bool := match T.funs.get a with
 | some f => bodyN ih f n (midR T ih) args σ k
 | none => false
end
end Mine
set_option genInjectivity false
set_option genSizeOf false
namespace Mine
section
open PySem
noncomputable def nmsA : List Str := [Str.ofString "a",
 Str.ofString "n",
 Str.ofString "ring",
 Str.ofString "b",
 Str.ofString "gap",
 Str.ofString "distance",
 Str.ofString "is_before",
 Str.ofString "self",
 Str.ofString "source_port",
 Str.ofString "target_port",
 Str.ofString "seq",
 Str.ofString "ack",
 Str.ofString "flags",
 Str.ofString "window",
 Str.ofString "urgent",
 Str.ofString "options",
 Str.ofString "payload",
 Str.ofString "flag",
 Str.ofString "many",
 Str.ofString "len",
 Str.ofString "has",
 Str.ofString "SYN",
 Str.ofString "FIN",
 Str.ofString "numbers",
 Str.ofString "bytes",
 Str.ofString "closed",
 Str.ofString "listen",
 Str.ofString "connect",
 Str.ofString "syn sent",
 Str.ofString "syn",
 Str.ofString "syn received",
 Str.ofString "syn ack",
 Str.ofString "established",
 Str.ofString "ack of syn",
 Str.ofString "close",
 Str.ofString "fin wait 1",
 Str.ofString "close wait",
 Str.ofString "last ack",
 Str.ofString "fin",
 Str.ofString "closing",
 Str.ofString "fin wait 2",
 Str.ofString "time wait",
 Str.ofString "ack of fin",
 Str.ofString "fin and ack of fin",
 Str.ofString "time wait over",
 Str.ofString "event",
 Str.ofString "reset",
 Str.ofString "state",
 Str.ofString "LISTEN",
 Str.ofString "CLOSED",
 Str.ofString "abort",
 Str.ofString "timeout",
 Str.ofString "TIME_WAIT",
 Str.ofString "found",
 Str.ofString "opening_steps",
 Str.ofString "closing_steps",
 Str.ofString "SYN_SENT",
 Str.ofString "SYN_RECEIVED",
 Str.ofString "ESTABLISHED",
 Str.ofString "FIN_WAIT_1",
 Str.ofString "CLOSE_WAIT",
 Str.ofString "CLOSING",
 Str.ofString "LAST_ACK",
 Str.ofString "delay",
 Str.ofString "waiting",
 Str.ofString "due",
 Str.ofString "has_gap",
 Str.ofString "mss",
 Str.ofString "most",
 Str.ofString "size",
 Str.ofString "first",
 Str.ofString "threshold",
 Str.ofString "gathered",
 Str.ofString "duplicates",
 Str.ofString "is_recovering",
 Str.ofString "is_cautious",
 Str.ofString "octets",
 Str.ofString "half",
 Str.ofString "flight",
 Str.ofString "recovered",
 Str.ofString "slow_start",
 Str.ofString "avoid",
 Str.ofString "grow",
 Str.ofString "DUPLICATES",
 Str.ofString "none",
 Str.ofString "halved",
 Str.ofString "resend",
 Str.ofString "estimate",
 Str.ofString "most_tries",
 Str.ofString "tries",
 Str.ofString "timed_end",
 Str.ofString "timed_at",
 Str.ofString "is_at_most",
 Str.ofString "measured",
 Str.ofString "now",
 Str.ofString "sample",
 Str.ofString "ticks",
 Str.ofString "turn",
 Str.ofString "range",
 Str.ofString "MOST_SHIFT_retransmit",
 Str.ofString "bounded",
 Str.ofString "waited",
 Str.ofString "least",
 Str.ofString "mean8",
 Str.ofString "spread4",
 Str.ofString "plain_timeout",
 Str.ofString "room",
 Str.ofString "held",
 Str.ofString "taken",
 Str.ofString "min",
 Str.ofString "room_left",
 Str.ofString "at",
 Str.ofString "told_seq",
 Str.ofString "told_ack",
 Str.ofString "ahead",
 Str.ofString "is_newer",
 Str.ofString "max",
 Str.ofString "iss",
 Str.ofString "una",
 Str.ofString "next"]
noncomputable def nmsB : List Str := [Str.ofString "greatest",
 Str.ofString "peer",
 Str.ofString "PeerWindow",
 Str.ofString "queue",
 Str.ofString "SendQueue",
 Str.ofString "syn_pending",
 Str.ofString "fin_asked",
 Str.ofString "fin_sent",
 Str.ofString "take",
 Str.ofString "put",
 Str.ofString "int",
 Str.ofString "data_sent",
 Str.ofString "is_fin_acked",
 Str.ofString "plus",
 Str.ofString "latest",
 Str.ofString "go_on",
 Str.ofString "unsent",
 Str.ofString "is_fin_due",
 Str.ofString "usable",
 Str.ofString "congestion_window",
 Str.ofString "append",
 Str.ofString "is_nagle",
 Str.ofString "ever_sent",
 Str.ofString "reach",
 Str.ofString "has_fin",
 Str.ofString "part",
 Str.ofString "is_idle_with_more",
 Str.ofString "may_go",
 Str.ofString "is_syn",
 Str.ofString "drop",
 Str.ofString "slots",
 Str.ofString "place",
 Str.ofString "late",
 Str.ofString "entries",
 Str.ofString "reached",
 Str.ofString "given",
 Str.ofString "cancel",
 Str.ofString "key",
 Str.ofString "time",
 Str.ofString "list_of",
 Str.ofString "order",
 Str.ofString "pop",
 Str.ofString "keys",
 Str.ofString "remove",
 Str.ofString "send_room",
 Str.ofString "receive_room",
 Str.ofString "first_timeout",
 Str.ofString "least_timeout",
 Str.ofString "most_timeout",
 Str.ofString "ack_delay",
 Str.ofString "time_wait",
 Str.ofString "RttEstimate",
 Str.ofString "limits",
 Str.ofString "RetransmitClock",
 Str.ofString "local",
 Str.ofString "remote",
 Str.ofString "sender",
 Str.ofString "Sender",
 Str.ofString "receiver",
 Str.ofString "clock",
 Str.ofString "clock_of",
 Str.ofString "congestion",
 Str.ofString "Congestion",
 Str.ofString "acks",
 Str.ofString "AckPolicy",
 Str.ofString "wheel",
 Str.ofString "Wheel",
 Str.ofString "error",
 Str.ofString "probes",
 Str.ofString "unanswered",
 Str.ofString "MOST_WINDOW",
 Str.ofString "ACK",
 Str.ofString "on_sent",
 Str.ofString "DELAYED",
 Str.ofString "mss_option",
 Str.ofString "window_now",
 Str.ofString "Segment",
 Str.ofString "follow",
 Str.ofString "tcb",
 Str.ofString "RESEND",
 Str.ofString "PERSIST",
 Str.ofString "WAIT",
 Str.ofString "make",
 Str.ofString "has_push",
 Str.ofString "PSH",
 Str.ofString "is_sending",
 Str.ofString "pieces",
 Str.ofString "end",
 Str.ofString "sent",
 Str.ofString "flags_of",
 Str.ofString "take_asked_fin",
 Str.ofString "syn_segment",
 Str.ofString "data_segments",
 Str.ofString "keep_timers",
 Str.ofString "deadline",
 Str.ofString "time_of",
 Str.ofString "needs_probe",
 Str.ofString "probe_wait",
 Str.ofString "forget",
 Str.ofString "has_syn",
 Str.ofString "first_piece",
 Str.ofString "segment",
 Str.ofString "RST",
 Str.ofString "enter_time_wait",
 Str.ofString "is_old_acknowledgement",
 Str.ofString "take_acknowledgement",
 Str.ofString "output",
 Str.ofString "ack_segment",
 Str.ofString "is_synchronized",
 Str.ofString "is_too_far",
 Str.ofString "is_fin",
 Str.ofString "acked",
 Str.ofString "set_resend",
 Str.ofString "take_duplicate",
 Str.ofString "take_window",
 Str.ofString "reset_tries",
 Str.ofString "take_ack",
 Str.ofString "keep_edge",
 Str.ofString "end_of_sending",
 Str.ofString "length",
 Str.ofString "duplicate",
 Str.ofString "segment_again",
 Str.ofString "change_state",
 Str.ofString "parts",
 Str.ofString "irs",
 Str.ofString "ready",
 Str.ofString "bytearray",
 Str.ofString "assembly",
 Str.ofString "Assembly",
 Str.ofString "told_edge",
 Str.ofString "fin_at",
 Str.ofString "urgent_at",
 Str.ofString "free_edge",
 Str.ofString "should_tell",
 Str.ofString "told_window",
 Str.ofString "Tcb",
 Str.ofString "Limits",
 Str.ofString "Receiver",
 Str.ofString "start",
 Str.ofString "_law_has_fin",
 Str.ofString "ask_fin",
 Str.ofString "is_ended",
 Str.ofString "is_taken",
 Str.ofString "near",
 Str.ofString "far",
 Str.ofString "told",
 Str.ofString "gone",
 Str.ofString "row",
 Str.ofString "whole",
 Str.ofString "is_reset",
 Str.ofString "is_plain",
 Str.ofString "is_old",
 Str.ofString "following",
 Str.ofString "rows",
 Str.ofString "one",
 Str.ofString "turned_down",
 Str.ofString "later",
 Str.ofString "is_anew",
 Str.ofString "_law_later",
 Str.ofString "goes",
 Str.ofString "wait",
 Str.ofString "_law_window",
 Str.ofString "kept",
 Str.ofString "_law_end",
 Str.ofString "_law_row_right",
 Str.ofString "bare",
 Str.ofString "piece",
 Str.ofString "_wall",
 Str.ofString "put16",
 Str.ofString "OPTION_MSS",
 Str.ofString "MSS_SIZE",
 Str.ofString "check_number",
 Str.ofString "FIN_WAIT_2",
 Str.ofString "MOST_SHIFT_tcp_user",
 Str.ofString "_law_pool",
 Str.ofString "_law_take",
 Str.ofString "_law_one",
 Str.ofString "_law_state_right",
 Str.ofString "_law_thrice_right",
 Str.ofString "law",
 Str.ofString "get",
 Str.ofString "source",
 Str.ofString "drawn",
 Str.ofString "top",
 Str.ofString "things",
 Str.ofString "script",
 Str.ofString "states",
 Str.ofString "cell",
 Str.ofString "great"]
noncomputable def nmLen : Nat := 309
noncomputable def fb_28 : X := (.cons (.ret (.bin .Mod (.bin .Add (.loc 0) (.loc 1)) (.loc 2))) .nil)
noncomputable def fi_28 : FI := ⟨[0, 1, 2], [], fb_28⟩
noncomputable def fb_35 : X := (.cons (.ret (.bin .Mod (.bin .Sub (.loc 3) (.loc 0)) (.loc 2))) .nil)
noncomputable def fi_35 : FI := ⟨[0, 3, 2], [], fb_35⟩
noncomputable def fb_42 : X := (.cons (.asg (.loc 4) (.cal (.glb 5) (.cons (.loc 0) (.cons (.loc 3) (.cons (.loc 2) .nil))))) (.cons (.ret (.and_ (.cons (.cmp .Gt (.loc 4) (.k (.int (.k 0)))) (.cons (.cmp .Lt (.bin .Mult (.k (.int (.k 2))) (.loc 4)) (.loc 2)) .nil)))) .nil))
noncomputable def fi_42 : FI := ⟨[0, 3, 2], [], fb_42⟩
noncomputable def fb_56 : X := (.cons (.ret (.ife (.cal (.glb 6) (.cons (.loc 0) (.cons (.loc 3) (.cons (.loc 2) .nil)))) (.loc 3) (.loc 0))) .nil)
noncomputable def fi_56 : FI := ⟨[0, 3, 2], [], fb_56⟩
noncomputable def fb_122 : X := (.cons (.asg (.att (.loc 7) 8) (.loc 8)) (.cons (.asg (.att (.loc 7) 9) (.loc 9)) (.cons (.asg (.att (.loc 7) 10) (.loc 10)) (.cons (.asg (.att (.loc 7) 11) (.loc 11)) (.cons (.asg (.att (.loc 7) 12) (.loc 12)) (.cons (.asg (.att (.loc 7) 13) (.loc 13)) (.cons (.asg (.att (.loc 7) 14) (.loc 14)) (.cons (.asg (.att (.loc 7) 15) (.loc 15)) (.cons (.asg (.att (.loc 7) 16) (.loc 16)) .nil)))))))))
noncomputable def fi_122 : FI := ⟨[7, 8, 9, 10, 11, 12, 13, 14, 15, 16], [], fb_122⟩
noncomputable def fb_129 : X := (.cons (.ret (.cmp .NotEq (.bin .BitAnd (.att (.loc 7) 12) (.loc 17)) (.k (.int (.k 0))))) .nil)
noncomputable def fi_129 : FI := ⟨[7, 17], [], fb_129⟩
noncomputable def fb_136 : X := (.cons (.asg (.loc 18) (.cal (.glb 19) (.cons (.att (.loc 7) 16) .nil))) (.cons (.ift (.met (.loc 7) 20 (.cons (.glb 21) .nil)) (.cons (.aug 18 .Add (.k (.int (.k 1)))) .nil) .nil) (.cons (.ift (.met (.loc 7) 20 (.cons (.glb 22) .nil)) (.cons (.aug 18 .Add (.k (.int (.k 1)))) .nil) .nil) (.cons (.ret (.loc 18)) .nil))))
noncomputable def fi_136 : FI := ⟨[7], [], fb_136⟩
noncomputable def fb_143 : X := (.cons (.asg (.loc 23) (.tup (.cons (.att (.loc 7) 8) (.cons (.att (.loc 7) 9) (.cons (.att (.loc 7) 10) (.cons (.att (.loc 7) 11) (.cons (.att (.loc 7) 12) (.cons (.att (.loc 7) 13) (.cons (.att (.loc 7) 14) .nil))))))))) (.cons (.ret (.bin .Add (.loc 23) (.tup (.cons (.cal (.glb 24) (.cons (.att (.loc 7) 15) .nil)) (.cons (.cal (.glb 24) (.cons (.att (.loc 7) 16) .nil)) .nil))))) .nil))
noncomputable def fi_143 : FI := ⟨[7], [], fb_143⟩
noncomputable def tt_171 : List ((Nat × Nat) × Nat) := [((25, 26), 26), ((25, 27), 28), ((26, 27), 28), ((26, 29), 30), ((28, 29), 30), ((28, 31), 32), ((30, 33), 32)]
noncomputable def tt_178 : List ((Nat × Nat) × Nat) := [((26, 34), 25), ((28, 34), 25), ((30, 34), 35), ((32, 34), 35), ((36, 34), 37), ((30, 38), 36), ((32, 38), 36), ((35, 38), 39), ((40, 38), 41), ((36, 38), 36), ((39, 38), 39), ((37, 38), 37), ((41, 38), 41), ((35, 42), 40), ((39, 42), 41), ((37, 42), 25), ((35, 43), 41), ((41, 44), 25)]
noncomputable def fb_185 : X := (.cons (.ift (.cmp .Eq (.loc 45) (.k (.str 46))) (.cons (.ret (.ife (.cmp .Eq (.loc 47) (.glb 48)) (.glb 48) (.ife (.cmp .Eq (.loc 47) (.glb 49)) (.k .none) (.glb 49)))) .nil) .nil) (.cons (.ift (.cmp .Eq (.loc 45) (.k (.str 50))) (.cons (.ret (.ife (.cmp .Eq (.loc 47) (.glb 49)) (.k .none) (.glb 49))) .nil) .nil) (.cons (.ift (.cmp .Eq (.loc 45) (.k (.str 51))) (.cons (.ret (.ife (.cmp .In (.loc 47) (.tup (.cons (.glb 49) (.cons (.glb 48) (.cons (.glb 52) .nil))))) (.k .none) (.glb 49))) .nil) .nil) (.cons (.asg (.loc 53) (.tg 54 47 45)) (.cons (.ret (.ife (.cmp .Is (.loc 53) (.k .none)) (.tg 55 47 45) (.loc 53))) .nil)))))
noncomputable def fi_185 : FI := ⟨[47, 45], [], fb_185⟩
noncomputable def fb_192 : X := (.cons (.ret (.cmp .NotIn (.loc 47) (.tup (.cons (.glb 49) (.cons (.glb 48) (.cons (.glb 56) (.cons (.glb 57) .nil))))))) .nil)
noncomputable def fi_192 : FI := ⟨[47], [], fb_192⟩
noncomputable def fb_199 : X := (.cons (.ret (.cmp .In (.loc 47) (.tup (.cons (.glb 58) (.cons (.glb 59) (.cons (.glb 60) (.cons (.glb 61) (.cons (.glb 62) .nil)))))))) .nil)
noncomputable def fi_199 : FI := ⟨[47], [], fb_199⟩
noncomputable def fb_213 : X := (.cons (.asg (.att (.loc 7) 63) (.loc 63)) (.cons (.asg (.att (.loc 7) 64) (.k (.int (.k 0)))) (.cons (.asg (.att (.loc 7) 65) (.k .none)) (.cons (.asg (.att (.loc 7) 66) (.k (.bool false))) .nil))))
noncomputable def fi_213 : FI := ⟨[7, 63], [], fb_213⟩
noncomputable def fb_242 : X := (.cons (.asg (.att (.loc 7) 64) (.k (.int (.k 0)))) (.cons (.asg (.att (.loc 7) 65) (.k .none)) .nil))
noncomputable def fi_242 : FI := ⟨[7], [], fb_242⟩
noncomputable def fb_270 : X := (.cons (.asg (.att (.loc 7) 67) (.loc 67)) (.cons (.asg (.att (.loc 7) 68) (.loc 68)) (.cons (.asg (.att (.loc 7) 69) (.loc 70)) (.cons (.asg (.att (.loc 7) 71) (.loc 68)) (.cons (.asg (.att (.loc 7) 72) (.k (.int (.k 0)))) (.cons (.asg (.att (.loc 7) 73) (.k (.int (.k 0)))) (.cons (.asg (.att (.loc 7) 74) (.k (.bool false))) (.cons (.asg (.att (.loc 7) 75) (.k (.bool false))) .nil))))))))
noncomputable def fi_270 : FI := ⟨[7, 67, 70, 68], [], fb_270⟩
noncomputable def fb_277 : X := (.cons (.ret (.att (.loc 7) 69)) .nil)
noncomputable def fi_277 : FI := ⟨[7], [], fb_277⟩
noncomputable def fb_291 : X := (.cons (.asg (.att (.loc 7) 69) (.bin .Add (.att (.loc 7) 69) (.loc 76))) (.cons (.ift (.cmp .Gt (.att (.loc 7) 69) (.att (.loc 7) 68)) (.cons (.asg (.att (.loc 7) 69) (.att (.loc 7) 68)) .nil) .nil) .nil))
noncomputable def fi_291 : FI := ⟨[7, 76], [], fb_291⟩
noncomputable def fb_298 : X := (.cons (.asg (.loc 77) (.bin .FloorDiv (.loc 78) (.k (.int (.k 2))))) (.cons (.ret (.ife (.cmp .Gt (.loc 77) (.bin .Mult (.k (.int (.k 2))) (.att (.loc 7) 67))) (.loc 77) (.bin .Mult (.k (.int (.k 2))) (.att (.loc 7) 67)))) .nil))
noncomputable def fi_298 : FI := ⟨[7, 78], [], fb_298⟩
noncomputable def fb_305 : X := (.cons (.ift (.att (.loc 7) 74) (.cons (.ex (.met (.loc 7) 79 .nil)) (.cons .ret0 .nil)) .nil) (.cons (.asg (.att (.loc 7) 73) (.k (.int (.k 0)))) (.cons (.ift (.cmp .Lt (.att (.loc 7) 69) (.att (.loc 7) 71)) (.cons (.ex (.met (.loc 7) 80 (.cons (.loc 76) .nil))) .nil) (.cons (.ex (.met (.loc 7) 81 (.cons (.loc 76) .nil))) .nil)) .nil)))
noncomputable def fi_305 : FI := ⟨[7, 76], [], fb_305⟩
noncomputable def fb_312 : X := (.cons (.asg (.loc 68) (.ife (.att (.loc 7) 75) (.att (.loc 7) 67) (.bin .Mult (.k (.int (.k 2))) (.att (.loc 7) 67)))) (.cons (.ex (.met (.loc 7) 82 (.cons (.ife (.cmp .Gt (.loc 76) (.loc 68)) (.loc 68) (.loc 76)) .nil))) (.cons (.ift (.cmp .GtE (.att (.loc 7) 69) (.att (.loc 7) 71)) (.cons (.asg (.att (.loc 7) 75) (.k (.bool false))) .nil) .nil) .nil)))
noncomputable def fi_312 : FI := ⟨[7, 76], [], fb_312⟩
noncomputable def fb_326 : X := (.cons (.asg (.att (.loc 7) 73) (.bin .Add (.att (.loc 7) 73) (.k (.int (.k 1))))) (.cons (.ift (.att (.loc 7) 74) (.cons (.ex (.met (.loc 7) 82 (.cons (.att (.loc 7) 67) .nil))) (.cons (.ret (.k (.str 82))) .nil)) .nil) (.cons (.ift (.cmp .Lt (.att (.loc 7) 73) (.glb 83)) (.cons (.ret (.k (.str 84))) .nil) .nil) (.cons (.asg (.att (.loc 7) 71) (.met (.loc 7) 85 (.cons (.loc 78) .nil))) (.cons (.asg (.att (.loc 7) 69) (.att (.loc 7) 71)) (.cons (.ex (.met (.loc 7) 82 (.cons (.bin .Mult (.glb 83) (.att (.loc 7) 67)) .nil))) (.cons (.asg (.att (.loc 7) 72) (.k (.int (.k 0)))) (.cons (.asg (.att (.loc 7) 74) (.k (.bool true))) (.cons (.ret (.k (.str 86))) .nil)))))))))
noncomputable def fi_326 : FI := ⟨[7, 78], [], fb_326⟩
noncomputable def fb_361 : X := (.cons (.asg (.att (.loc 7) 87) (.loc 87)) (.cons (.asg (.att (.loc 7) 88) (.loc 88)) (.cons (.asg (.att (.loc 7) 89) (.k (.int (.k 0)))) (.cons (.asg (.att (.loc 7) 90) (.k .none)) (.cons (.asg (.att (.loc 7) 91) (.k (.int (.k 0)))) .nil)))))
noncomputable def fi_361 : FI := ⟨[7, 87, 88], [], fb_361⟩
noncomputable def fb_382 : X := (.cons (.asg (.att (.loc 7) 90) (.k .none)) .nil)
noncomputable def fi_382 : FI := ⟨[7], [], fb_382⟩
noncomputable def fb_389 : X := (.cons (.asg (.att (.loc 7) 89) (.k (.int (.k 0)))) (.cons (.ift (.or_ (.cons (.cmp .Is (.att (.loc 7) 90) (.k .none)) (.cons (.not_ (.cal (.glb 92) (.cons (.att (.loc 7) 90) (.cons (.loc 11) (.cons (.loc 2) .nil))))) .nil))) (.cons (.ret (.k .none)) .nil) .nil) (.cons (.asg (.loc 93) (.bin .Sub (.loc 94) (.att (.loc 7) 91))) (.cons (.asg (.att (.loc 7) 90) (.k .none)) (.cons (.ex (.met (.att (.loc 7) 87) 95 (.cons (.loc 93) .nil))) (.cons (.ret (.loc 93)) .nil))))))
noncomputable def fi_389 : FI := ⟨[7, 11, 94, 2], [], fb_389⟩
noncomputable def fb_403 : X := (.cons (.asg (.att (.loc 7) 89) (.k (.int (.k 0)))) .nil)
noncomputable def fi_403 : FI := ⟨[7], [], fb_403⟩
noncomputable def fb_410 : X := (.cons (.asg (.loc 96) (.met (.att (.loc 7) 87) 51 .nil)) (.cons (.for_ (.loc 97) (.cal (.glb 98) (.cons (.ife (.cmp .Gt (.att (.loc 7) 89) (.glb 99)) (.glb 99) (.att (.loc 7) 89)) .nil)) (.cons (.asg (.loc 96) (.bin .Mult (.k (.int (.k 2))) (.loc 96))) .nil)) (.cons (.ret (.met (.att (.loc 7) 87) 100 (.cons (.loc 96) .nil))) .nil)))
noncomputable def fi_410 : FI := ⟨[7], [], fb_410⟩
noncomputable def fb_417 : X := (.cons (.ret (.bin .Add (.loc 94) (.met (.loc 7) 101 .nil))) .nil)
noncomputable def fi_417 : FI := ⟨[7, 94], [], fb_417⟩
noncomputable def fb_438 : X := (.cons (.asg (.att (.loc 7) 70) (.loc 70)) (.cons (.asg (.att (.loc 7) 102) (.loc 102)) (.cons (.asg (.att (.loc 7) 68) (.loc 68)) (.cons (.asg (.att (.loc 7) 103) (.k (.int (.k 0)))) (.cons (.asg (.att (.loc 7) 104) (.k (.int (.k 0)))) (.cons (.asg (.att (.loc 7) 93) (.k (.int (.k 0)))) .nil))))))
noncomputable def fi_438 : FI := ⟨[7, 70, 102, 68], [], fb_438⟩
noncomputable def fb_459 : X := (.cons (.ift (.cmp .Eq (.att (.loc 7) 93) (.k (.int (.k 0)))) (.cons (.ret (.att (.loc 7) 70)) .nil) .nil) (.cons (.ret (.bin .Add (.bin .FloorDiv (.att (.loc 7) 103) (.k (.int (.k 8)))) (.att (.loc 7) 104))) .nil))
noncomputable def fi_459 : FI := ⟨[7], [], fb_459⟩
noncomputable def fb_466 : X := (.cons (.ret (.met (.loc 7) 100 (.cons (.met (.loc 7) 105 .nil) .nil))) .nil)
noncomputable def fi_466 : FI := ⟨[7], [], fb_466⟩
noncomputable def fb_473 : X := (.cons (.ift (.cmp .Lt (.loc 96) (.att (.loc 7) 102)) (.cons (.ret (.att (.loc 7) 102)) .nil) .nil) (.cons (.ret (.ife (.cmp .Gt (.loc 96) (.att (.loc 7) 68)) (.att (.loc 7) 68) (.loc 96))) .nil))
noncomputable def fi_473 : FI := ⟨[7, 96], [], fb_473⟩
noncomputable def fb_494 : X := (.cons (.ift (.cmp .Lt (.loc 106) (.k (.int (.k 1)))) (.cons .rai .nil) .nil) (.cons (.asg (.att (.loc 7) 106) (.loc 106)) (.cons (.asg (.att (.loc 7) 107) (.k (.bytes (.k [])))) .nil)))
noncomputable def fi_494 : FI := ⟨[7, 106], [], fb_494⟩
noncomputable def fb_501 : X := (.cons (.ret (.cal (.glb 19) (.cons (.att (.loc 7) 107) .nil))) .nil)
noncomputable def fi_501 : FI := ⟨[7], [], fb_501⟩
noncomputable def fb_508 : X := (.cons (.ret (.bin .Sub (.att (.loc 7) 106) (.cal (.glb 19) (.cons (.att (.loc 7) 107) .nil)))) .nil)
noncomputable def fi_508 : FI := ⟨[7], [], fb_508⟩
noncomputable def fb_515 : X := (.cons (.asg (.loc 108) (.cal (.glb 109) (.cons (.cal (.glb 19) (.cons (.loc 76) .nil)) (.cons (.met (.loc 7) 110 .nil) .nil)))) (.cons (.asg (.att (.loc 7) 107) (.bin .Add (.att (.loc 7) 107) (.cal (.glb 24) (.cons (.slh (.loc 76) (.loc 108)) .nil)))) (.cons (.ret (.loc 108)) .nil)))
noncomputable def fi_515 : FI := ⟨[7, 76], [], fb_515⟩
noncomputable def fb_522 : X := (.cons (.ift (.or_ (.cons (.cmp .Lt (.loc 111) (.k (.int (.k 0)))) (.cons (.cmp .Lt (.loc 18) (.k (.int (.k 0)))) (.cons (.cmp .Gt (.bin .Add (.loc 111) (.loc 18)) (.cal (.glb 19) (.cons (.att (.loc 7) 107) .nil))) .nil)))) (.cons .rai .nil) .nil) (.cons (.ret (.slb (.att (.loc 7) 107) (.loc 111) (.bin .Add (.loc 111) (.loc 18)))) .nil))
noncomputable def fi_522 : FI := ⟨[7, 111, 18], [], fb_522⟩
noncomputable def fb_529 : X := (.cons (.ift (.or_ (.cons (.cmp .Lt (.loc 18) (.k (.int (.k 0)))) (.cons (.cmp .Gt (.loc 18) (.cal (.glb 19) (.cons (.att (.loc 7) 107) .nil))) .nil))) (.cons .rai .nil) .nil) (.cons (.asg (.att (.loc 7) 107) (.sll (.att (.loc 7) 107) (.loc 18))) .nil))
noncomputable def fi_529 : FI := ⟨[7, 18], [], fb_529⟩
noncomputable def fb_550 : X := (.cons (.asg (.att (.loc 7) 2) (.loc 2)) (.cons (.asg (.att (.loc 7) 69) (.k (.int (.k 0)))) (.cons (.asg (.att (.loc 7) 68) (.k (.int (.k 0)))) (.cons (.asg (.att (.loc 7) 112) (.k .none)) (.cons (.asg (.att (.loc 7) 113) (.k (.int (.k 0)))) .nil)))))
noncomputable def fi_550 : FI := ⟨[7, 2], [], fb_550⟩
noncomputable def fb_557 : X := (.cons (.ift (.cmp .Is (.att (.loc 7) 112) (.k .none)) (.cons (.ret (.k (.bool true))) .nil) .nil) (.cons (.asg (.loc 114) (.cal (.glb 5) (.cons (.att (.loc 7) 112) (.cons (.loc 10) (.cons (.att (.loc 7) 2) .nil))))) (.cons (.ift (.cmp .Eq (.loc 114) (.k (.int (.k 0)))) (.cons (.ret (.cmp .Lt (.cal (.glb 5) (.cons (.att (.loc 7) 113) (.cons (.loc 11) (.cons (.att (.loc 7) 2) .nil)))) (.bin .FloorDiv (.att (.loc 7) 2) (.k (.int (.k 2)))))) .nil) .nil) (.cons (.ret (.cmp .Lt (.loc 114) (.bin .FloorDiv (.att (.loc 7) 2) (.k (.int (.k 2)))))) .nil))))
noncomputable def fi_557 : FI := ⟨[7, 10, 11], [], fb_557⟩
noncomputable def fb_564 : X := (.cons (.ift (.not_ (.met (.loc 7) 115 (.cons (.loc 10) (.cons (.loc 11) .nil)))) (.cons (.ret (.k (.bool false))) .nil) .nil) (.cons (.asg (.att (.loc 7) 112) (.loc 10)) (.cons (.asg (.att (.loc 7) 113) (.loc 11)) (.cons (.asg (.att (.loc 7) 69) (.loc 69)) (.cons (.asg (.att (.loc 7) 68) (.cal (.glb 116) (.cons (.att (.loc 7) 68) (.cons (.loc 69) .nil)))) (.cons (.ret (.k (.bool true))) .nil))))))
noncomputable def fi_564 : FI := ⟨[7, 10, 11, 69], [], fb_564⟩
noncomputable def fb_571 : X := (.cons (.asg (.att (.loc 7) 69) (.cal (.glb 116) (.cons (.k (.int (.k 0))) (.cons (.bin .Sub (.att (.loc 7) 69) (.loc 18)) .nil)))) .nil)
noncomputable def fi_571 : FI := ⟨[7, 18], [], fb_571⟩
noncomputable def fb_592 : X := (.cons (.asg (.att (.loc 7) 117) (.loc 117)) (.cons (.asg (.att (.loc 7) 2) (.loc 2)) (.cons (.asg (.att (.loc 7) 67) (.loc 67)) (.cons (.asg (.att (.loc 7) 118) (.loc 117)) (.cons (.asg (.att (.loc 7) 119) (.loc 117)) (.cons (.asg (.att (.loc 7) 120) (.loc 117)) (.cons (.asg (.att (.loc 7) 121) (.cal (.glb 122) (.cons (.loc 2) .nil))) (.cons (.asg (.att (.loc 7) 123) (.cal (.glb 124) (.cons (.loc 106) .nil))) (.cons (.asg (.att (.loc 7) 125) (.k (.bool true))) (.cons (.asg (.att (.loc 7) 126) (.k (.bool false))) (.cons (.asg (.att (.loc 7) 127) (.k (.bool false))) .nil)))))))))))
noncomputable def fi_592 : FI := ⟨[7, 117, 2, 67, 106], [], fb_592⟩
noncomputable def fb_599 : X := (.cons (.ret (.att (.att (.loc 7) 121) 69)) .nil)
noncomputable def fi_599 : FI := ⟨[7], [], fb_599⟩
noncomputable def fb_607 : X := (.cons (.ret (.met (.att (.loc 7) 121) 128 (.cons (.loc 10) (.cons (.loc 11) (.cons (.loc 13) .nil))))) .nil)
noncomputable def fi_607 : FI := ⟨[7, 10, 11, 13], [], fb_607⟩
noncomputable def fb_614 : X := (.cons (.ift (.att (.loc 7) 126) (.cons .rai .nil) .nil) (.cons (.ret (.met (.att (.loc 7) 123) 129 (.cons (.loc 76) .nil))) .nil))
noncomputable def fi_614 : FI := ⟨[7, 76], [], fb_614⟩
noncomputable def fb_621 : X := (.cons (.asg (.att (.loc 7) 126) (.k (.bool true))) .nil)
noncomputable def fi_621 : FI := ⟨[7], [], fb_621⟩
noncomputable def fb_628 : X := (.cons (.ret (.cal (.glb 5) (.cons (.att (.loc 7) 118) (.cons (.att (.loc 7) 119) (.cons (.att (.loc 7) 2) .nil))))) .nil)
noncomputable def fi_628 : FI := ⟨[7], [], fb_628⟩
noncomputable def fb_642 : X := (.cons (.ret (.cal (.glb 109) (.cons (.met (.att (.loc 7) 123) 69 .nil) (.cons (.cal (.glb 116) (.cons (.k (.int (.k 0))) (.cons (.bin .Sub (.met (.loc 7) 78 .nil) (.cal (.glb 130) (.cons (.att (.loc 7) 125) .nil))) .nil))) .nil)))) .nil)
noncomputable def fi_642 : FI := ⟨[7], [], fb_642⟩
noncomputable def fb_649 : X := (.cons (.ret (.bin .Sub (.met (.att (.loc 7) 123) 69 .nil) (.met (.loc 7) 131 .nil))) .nil)
noncomputable def fi_649 : FI := ⟨[7], [], fb_649⟩
noncomputable def fb_656 : X := (.cons (.asg (.loc 106) (.bin .Add (.met (.att (.loc 7) 123) 69 .nil) (.cal (.glb 130) (.cons (.att (.loc 7) 125) .nil)))) (.cons (.ret (.and_ (.cons (.att (.loc 7) 126) (.cons (.not_ (.met (.loc 7) 132 .nil)) (.cons (.cmp .LtE (.met (.loc 7) 78 .nil) (.loc 106)) .nil))))) .nil))
noncomputable def fi_656 : FI := ⟨[7], [], fb_656⟩
noncomputable def fb_663 : X := (.cons (.ret (.and_ (.cons (.att (.loc 7) 127) (.cons (.not_ (.att (.loc 7) 125)) (.cons (.cmp .Eq (.met (.att (.loc 7) 123) 69 .nil) (.k (.int (.k 0)))) (.cons (.cmp .Eq (.att (.loc 7) 118) (.att (.loc 7) 120)) .nil)))))) .nil)
noncomputable def fi_663 : FI := ⟨[7], [], fb_663⟩
noncomputable def fb_677 : X := (.cons (.asg (.att (.loc 7) 119) (.cal (.glb 133) (.cons (.att (.loc 7) 119) (.cons (.loc 18) (.cons (.att (.loc 7) 2) .nil))))) (.cons (.asg (.att (.loc 7) 120) (.cal (.glb 134) (.cons (.att (.loc 7) 120) (.cons (.att (.loc 7) 119) (.cons (.att (.loc 7) 2) .nil))))) .nil))
noncomputable def fi_677 : FI := ⟨[7, 18], [], fb_677⟩
noncomputable def fb_684 : X := (.cons (.ift (.not_ (.att (.loc 7) 125)) (.cons .rai .nil) .nil) (.cons (.ift (.cmp .Eq (.att (.loc 7) 119) (.att (.loc 7) 117)) (.cons (.ex (.met (.loc 7) 135 (.cons (.k (.int (.k 1))) .nil))) .nil) .nil) (.cons (.ret (.att (.loc 7) 117)) .nil)))
noncomputable def fi_684 : FI := ⟨[7], [], fb_684⟩
noncomputable def fb_699 : X := (.cons (.asg (.loc 53) (.lst .nil)) (.cons (.ift (.att (.loc 7) 125) (.cons (.ret (.loc 53)) .nil) .nil) (.cons (.whl (.cmp .Gt (.met (.loc 7) 136 .nil) (.k (.int (.k 0))))) (.cons (.ift (.and_ (.cons (.met (.loc 7) 137 .nil) (.cons (.cmp .Gt (.met (.loc 7) 138 (.cons (.loc 139) .nil)) (.k (.int (.k 0)))) .nil))) (.cons (.ex (.met (.loc 53) 140 (.cons (.tup (.cons (.att (.loc 7) 119) (.cons (.k (.bytes (.k []))) (.cons (.k (.bool false)) (.cons (.k (.bool true)) .nil))))) .nil))) (.cons (.asg (.att (.loc 7) 127) (.k (.bool true))) (.cons (.ex (.met (.loc 7) 135 (.cons (.k (.int (.k 1))) .nil))) .nil))) .nil) (.cons (.ret (.loc 53)) .nil)))))
noncomputable def fi_699 : FI := ⟨[7, 139, 141], [], fb_699⟩
noncomputable def fb_713 : X := (.cons (.ret (.cal (.glb 5) (.cons (.att (.loc 7) 118) (.cons (.att (.loc 7) 120) (.cons (.att (.loc 7) 2) .nil))))) .nil)
noncomputable def fi_713 : FI := ⟨[7], [], fb_713⟩
noncomputable def fb_720 : X := (.cons (.asg (.loc 18) (.met (.loc 7) 142 .nil)) (.cons (.ift (.cmp .Eq (.loc 18) (.k (.int (.k 0)))) (.cons (.ret (.k .none)) .nil) .nil) (.cons (.ift (.att (.loc 7) 125) (.cons (.ex (.met (.loc 7) 143 (.cons (.k (.int (.k 1))) .nil))) (.cons (.ret (.tup (.cons (.att (.loc 7) 117) (.cons (.k (.bytes (.k []))) (.cons (.k (.bool true)) (.cons (.k (.bool false)) .nil)))))) .nil)) .nil) (.cons (.asg (.loc 69) (.cal (.glb 109) (.cons (.att (.loc 7) 67) (.cons (.met (.att (.loc 7) 123) 69 .nil) (.cons (.loc 18) .nil))))) (.cons (.asg (.loc 144) (.and_ (.cons (.att (.loc 7) 127) (.cons (.cmp .Eq (.loc 69) (.met (.att (.loc 7) 123) 69 .nil)) (.cons (.cmp .Gt (.loc 18) (.loc 69)) .nil))))) (.cons (.ex (.met (.loc 7) 143 (.cons (.bin .Add (.loc 69) (.cal (.glb 130) (.cons (.loc 144) .nil))) .nil))) (.cons (.ret (.tup (.cons (.att (.loc 7) 118) (.cons (.met (.att (.loc 7) 123) 145 (.cons (.k (.int (.k 0))) (.cons (.loc 69) .nil))) (.cons (.k (.bool false)) (.cons (.loc 144) .nil)))))) .nil)))))))
noncomputable def fi_720 : FI := ⟨[7], [], fb_720⟩
noncomputable def fb_727 : X := (.cons (.ift (.cmp .Lt (.met (.loc 7) 78 .nil) (.loc 18)) (.cons (.asg (.att (.loc 7) 119) (.cal (.glb 133) (.cons (.att (.loc 7) 118) (.cons (.loc 18) (.cons (.att (.loc 7) 2) .nil))))) .nil) .nil) .nil)
noncomputable def fi_727 : FI := ⟨[7, 18], [], fb_727⟩
noncomputable def fb_741 : X := (.cons (.ift (.or_ (.cons (.att (.loc 7) 125) (.cons (.cmp .Gt (.met (.loc 7) 78 .nil) (.k (.int (.k 0)))) .nil))) (.cons (.ret (.k (.bool false))) .nil) .nil) (.cons (.ret (.or_ (.cons (.cmp .Gt (.met (.loc 7) 136 .nil) (.k (.int (.k 0)))) (.cons (.met (.loc 7) 137 .nil) .nil)))) .nil))
noncomputable def fi_741 : FI := ⟨[7], [], fb_741⟩
noncomputable def fb_748 : X := (.cons (.ift (.not_ (.met (.loc 7) 146 .nil)) (.cons (.ret (.k (.bool false))) .nil) .nil) (.cons (.ift (.cmp .Eq (.att (.loc 7) 13) (.k (.int (.k 0)))) (.cons (.ret (.k (.bool true))) .nil) .nil) (.cons (.asg (.loc 18) (.cal (.glb 109) (.cons (.att (.loc 7) 67) (.cons (.met (.loc 7) 136 .nil) (.cons (.att (.loc 7) 13) .nil))))) (.cons (.ret (.and_ (.cons (.cmp .Gt (.loc 18) (.k (.int (.k 0)))) (.cons (.not_ (.met (.loc 7) 147 (.cons (.loc 18) (.cons (.k (.bool true)) .nil)))) .nil)))) .nil))))
noncomputable def fi_748 : FI := ⟨[7], [], fb_748⟩
noncomputable def fb_762 : X := (.cons (.asg (.loc 18) (.cal (.glb 5) (.cons (.att (.loc 7) 118) (.cons (.loc 11) (.cons (.att (.loc 7) 2) .nil))))) (.cons (.ift (.or_ (.cons (.cmp .Eq (.loc 18) (.k (.int (.k 0)))) (.cons (.cmp .Gt (.loc 18) (.met (.loc 7) 142 .nil)) .nil))) (.cons (.ret (.tup (.cons (.k (.int (.k 0))) (.cons (.k (.bool false)) (.cons (.k (.bool false)) .nil))))) .nil) .nil) (.cons (.asg (.loc 114) (.met (.loc 7) 78 .nil)) (.cons (.asg (.loc 148) (.att (.loc 7) 125)) (.cons (.asg (.att (.loc 7) 125) (.k (.bool false))) (.cons (.asg (.loc 76) (.cal (.glb 109) (.cons (.bin .Sub (.loc 18) (.cal (.glb 130) (.cons (.loc 148) .nil))) (.cons (.met (.att (.loc 7) 123) 69 .nil) .nil)))) (.cons (.ex (.met (.att (.loc 7) 123) 149 (.cons (.loc 76) .nil))) (.cons (.asg (.att (.loc 7) 118) (.loc 11)) (.cons (.ift (.cmp .Lt (.loc 114) (.loc 18)) (.cons (.asg (.att (.loc 7) 119) (.loc 11)) .nil) .nil) (.cons (.ret (.tup (.cons (.loc 76) (.cons (.loc 148) (.cons (.cmp .Gt (.bin .Sub (.loc 18) (.cal (.glb 130) (.cons (.loc 148) .nil))) (.loc 76)) .nil))))) .nil))))))))))
noncomputable def fi_762 : FI := ⟨[7, 11], [], fb_762⟩
noncomputable def fb_782 : X := (.cons (.asg (.att (.loc 7) 69) (.loc 69)) (.cons (.asg (.att (.loc 7) 150) (.lcp none 151 (.cal (.glb 98) (.cons (.loc 69) .nil)))) (.cons (.asg (.att (.loc 7) 152) (.lst .nil)) (.cons (.asg (.att (.loc 7) 153) .dic) (.cons (.asg (.att (.loc 7) 154) (.k .none)) (.cons (.asg (.att (.loc 7) 155) (.k (.int (.k 0)))) .nil))))))
noncomputable def fi_782 : FI := ⟨[7, 69], [.int (.k 16)], fb_782⟩
noncomputable def fb_789 : X := (.cons (.ex (.met (.loc 7) 156 (.cons (.loc 157) .nil))) (.cons (.asg (.att (.loc 7) 155) (.bin .Add (.att (.loc 7) 155) (.k (.int (.k 1))))) (.cons (.asg (.sub (.att (.loc 7) 153) (.loc 157)) (.tup (.cons (.loc 158) (.cons (.att (.loc 7) 155) .nil)))) (.cons (.ex (.met (.met (.loc 7) 159 (.cons (.loc 158) .nil)) 140 (.cons (.loc 157) .nil))) .nil))))
noncomputable def fi_789 : FI := ⟨[7, 157, 158], [], fb_789⟩
noncomputable def fb_796 : X := (.cons (.ift (.and_ (.cons (.cmp .IsNot (.att (.loc 7) 154) (.k .none)) (.cons (.cmp .LtE (.loc 158) (.att (.loc 7) 154)) .nil))) (.cons (.ret (.att (.loc 7) 152)) .nil) .nil) (.cons (.ret (.sub (.att (.loc 7) 150) (.bin .Mod (.loc 158) (.att (.loc 7) 69)))) .nil))
noncomputable def fi_796 : FI := ⟨[7, 158], [], fb_796⟩
noncomputable def fb_803 : X := (.cons (.ift (.cmp .In (.loc 157) (.att (.loc 7) 153)) (.cons (.asg (.tup (.cons (.loc 158) (.cons (.loc 160) .nil))) (.met (.att (.loc 7) 153) 161 (.cons (.loc 157) .nil))) (.cons (.for_ (.loc 162) (.tup (.cons (.att (.loc 7) 152) (.cons (.sub (.att (.loc 7) 150) (.bin .Mod (.loc 158) (.att (.loc 7) 69))) .nil))) (.cons (.ift (.cmp .In (.loc 157) (.loc 162)) (.cons (.ex (.met (.loc 162) 163 (.cons (.loc 157) .nil))) .nil) .nil) .nil)) .nil)) .nil) .nil)
noncomputable def fi_803 : FI := ⟨[7, 157], [], fb_803⟩
noncomputable def fb_810 : X := (.cons (.ret (.ife (.cmp .In (.loc 157) (.att (.loc 7) 153)) (.sub (.sub (.att (.loc 7) 153) (.loc 157)) (.k (.int (.k 0)))) (.k .none))) .nil)
noncomputable def fi_810 : FI := ⟨[7, 157], [], fb_810⟩
noncomputable def fb_850 : X := (.cons (.asg (.att (.loc 7) 2) (.loc 2)) (.cons (.asg (.att (.loc 7) 67) (.loc 67)) (.cons (.asg (.att (.loc 7) 164) (.loc 164)) (.cons (.asg (.att (.loc 7) 165) (.loc 165)) (.cons (.asg (.att (.loc 7) 166) (.loc 166)) (.cons (.asg (.att (.loc 7) 167) (.loc 167)) (.cons (.asg (.att (.loc 7) 168) (.loc 168)) (.cons (.asg (.att (.loc 7) 88) (.loc 88)) (.cons (.asg (.att (.loc 7) 169) (.loc 169)) (.cons (.asg (.att (.loc 7) 170) (.loc 170)) .nil))))))))))
noncomputable def fi_850 : FI := ⟨[7, 2, 67, 164, 165, 166, 167, 168, 88, 169, 170], [], fb_850⟩
noncomputable def fb_864 : X := (.cons (.asg (.loc 87) (.cal (.glb 171) (.cons (.att (.loc 172) 166) (.cons (.att (.loc 172) 167) (.cons (.att (.loc 172) 168) .nil))))) (.cons (.ret (.cal (.glb 173) (.cons (.loc 87) (.cons (.att (.loc 172) 88) .nil)))) .nil))
noncomputable def fi_864 : FI := ⟨[172], [], fb_864⟩
noncomputable def fb_878 : X := (.cons (.asg (.att (.loc 7) 172) (.loc 172)) (.cons (.asg (.att (.loc 7) 174) (.loc 174)) (.cons (.asg (.att (.loc 7) 175) (.loc 175)) (.cons (.asg (.att (.loc 7) 47) (.glb 49)) (.cons (.asg (.att (.loc 7) 176) (.cal (.glb 177) (.cons (.loc 117) (.cons (.att (.loc 172) 2) (.cons (.att (.loc 172) 67) (.cons (.att (.loc 172) 164) .nil)))))) (.cons (.asg (.att (.loc 7) 178) (.k .none)) (.cons (.asg (.att (.loc 7) 179) (.cal (.glb 180) (.cons (.loc 172) .nil))) (.cons (.asg (.att (.loc 7) 181) (.cal (.glb 182) (.cons (.att (.loc 172) 67) (.cons (.bin .Mult (.k (.int (.k 2))) (.att (.loc 172) 67)) (.cons (.bin .Add (.att (.loc 172) 164) (.att (.loc 172) 67)) .nil))))) (.cons (.asg (.att (.loc 7) 183) (.cal (.glb 184) (.cons (.att (.loc 172) 169) .nil))) (.cons (.asg (.att (.loc 7) 185) (.cal (.glb 186) .nil)) (.cons (.asg (.att (.loc 7) 187) (.k .none)) (.cons (.asg (.att (.loc 7) 188) (.k (.int (.k 0)))) (.cons (.asg (.att (.loc 7) 189) (.k (.int (.k 0)))) (.cons (.asg (.att (.loc 7) 141) (.k (.bool true))) .nil))))))))))))))
noncomputable def fi_878 : FI := ⟨[7, 172, 174, 175, 117], [], fb_878⟩
noncomputable def fb_885 : X := (.cons (.ift (.cmp .Is (.att (.loc 7) 178) (.k .none)) (.cons (.ret (.cal (.glb 109) (.cons (.att (.att (.loc 7) 172) 165) (.cons (.glb 190) .nil)))) .nil) .nil) (.cons (.ret (.cal (.glb 109) (.cons (.met (.att (.loc 7) 178) 13 .nil) (.cons (.glb 190) .nil)))) .nil))
noncomputable def fi_885 : FI := ⟨[7], [], fb_885⟩
noncomputable def fb_893 : X := (.cons (.asg (.loc 11) (.k (.int (.k 0)))) (.cons (.ift (.cmp .IsNot (.att (.loc 7) 178) (.k .none)) (.cons (.asg (.loc 12) (.bin .BitOr (.loc 12) (.glb 191))) (.cons (.asg (.loc 11) (.att (.att (.loc 7) 178) 119)) (.cons (.ex (.met (.att (.loc 7) 183) 192 .nil)) (.cons (.ex (.met (.att (.loc 7) 185) 156 (.cons (.glb 193) .nil))) .nil)))) .nil) (.cons (.asg (.loc 15) (.ife (.cmp .NotEq (.bin .BitAnd (.loc 12) (.glb 21)) (.k (.int (.k 0)))) (.cal (.glb 194) (.cons (.cal (.glb 109) (.cons (.att (.att (.loc 7) 172) 67) (.cons (.glb 190) .nil))) .nil)) (.k (.bytes (.k []))))) (.cons (.asg (.loc 13) (.met (.loc 7) 195 .nil)) (.cons (.ret (.cal (.glb 196) (.cons (.sub (.att (.loc 7) 174) (.k (.int (.k 1)))) (.cons (.sub (.att (.loc 7) 175) (.k (.int (.k 1)))) (.cons (.loc 10) (.cons (.loc 11) (.cons (.loc 12) (.cons (.loc 13) (.cons (.k (.int (.k 0))) (.cons (.loc 15) (.cons (.loc 16) .nil))))))))))) .nil)))))
noncomputable def fi_893 : FI := ⟨[7, 12, 10, 16], [.bytes (.k [])], fb_893⟩
noncomputable def fb_907 : X := (.cons (.asg (.loc 47) (.cal (.glb 197) (.cons (.att (.loc 198) 47) (.cons (.loc 45) .nil)))) (.cons (.ift (.cmp .Is (.loc 47) (.k .none)) (.cons .rai .nil) .nil) (.cons (.asg (.att (.loc 198) 47) (.loc 47)) .nil)))
noncomputable def fi_907 : FI := ⟨[198, 45], [], fb_907⟩
noncomputable def fb_914 : X := (.cons (.asg (.att (.loc 198) 47) (.glb 49)) (.cons (.ift (.cmp .IsNot (.loc 187) (.k .none)) (.cons (.asg (.att (.loc 198) 187) (.loc 187)) .nil) .nil) (.cons (.for_ (.loc 157) (.tup (.cons (.glb 199) (.cons (.glb 200) (.cons (.glb 193) (.cons (.glb 201) .nil))))) (.cons (.ex (.met (.att (.loc 198) 185) 156 (.cons (.loc 157) .nil))) .nil)) .nil)))
noncomputable def fi_914 : FI := ⟨[198, 187], [], fb_914⟩
noncomputable def fb_921 : X := (.cons (.asg (.att (.loc 198) 47) (.glb 52)) (.cons (.for_ (.loc 157) (.tup (.cons (.glb 199) (.cons (.glb 200) .nil))) (.cons (.ex (.met (.att (.loc 198) 185) 156 (.cons (.loc 157) .nil))) .nil)) (.cons (.ex (.met (.att (.loc 198) 185) 129 (.cons (.glb 201) (.cons (.bin .Add (.loc 94) (.att (.att (.loc 198) 172) 170)) .nil)))) .nil)))
noncomputable def fi_921 : FI := ⟨[198, 94], [], fb_921⟩
noncomputable def fb_928 : X := (.cons (.ret (.met (.loc 198) 202 (.cons (.glb 191) (.cons (.att (.att (.loc 198) 176) 119) .nil)))) .nil)
noncomputable def fi_928 : FI := ⟨[198], [], fb_928⟩
noncomputable def fb_942 : X := (.cons (.asg (.loc 12) (.glb 191)) (.cons (.ift (.loc 203) (.cons (.asg (.loc 12) (.bin .BitOr (.loc 12) (.glb 204))) .nil) .nil) (.cons (.ift (.loc 144) (.cons (.asg (.loc 12) (.bin .BitOr (.loc 12) (.glb 22))) .nil) .nil) (.cons (.ret (.loc 12)) .nil))))
noncomputable def fi_942 : FI := ⟨[203, 144], [], fb_942⟩
noncomputable def fb_949 : X := (.cons (.ift (.and_ (.cons (.att (.att (.loc 198) 176) 126) (.cons (.cal (.glb 205) (.cons (.att (.loc 198) 47) .nil)) .nil))) (.cons (.asg (.loc 47) (.cal (.glb 197) (.cons (.att (.loc 198) 47) (.cons (.k (.str 34)) .nil)))) (.cons (.ift (.cmp .IsNot (.loc 47) (.k .none)) (.cons (.asg (.att (.loc 198) 47) (.loc 47)) .nil) .nil) .nil)) .nil) .nil)
noncomputable def fi_949 : FI := ⟨[198], [], fb_949⟩
noncomputable def fb_956 : X := (.cons (.asg (.loc 53) (.lst .nil)) (.cons (.asg (.loc 2) (.att (.att (.loc 198) 172) 2)) (.cons (.asg (.loc 114) (.att (.att (.loc 198) 176) 120)) (.cons (.for_ (.tup (.cons (.loc 10) (.cons (.loc 76) (.cons (.loc 203) (.cons (.loc 144) .nil))))) (.met (.att (.loc 198) 176) 206 (.cons (.met (.att (.loc 198) 181) 13 .nil) (.cons (.att (.loc 198) 141) .nil))) (.cons (.asg (.loc 207) (.cal (.glb 133) (.cons (.loc 10) (.cons (.bin .Add (.cal (.glb 19) (.cons (.loc 76) .nil)) (.ife (.loc 144) (.k (.int (.k 1))) (.k (.int (.k 0))))) (.cons (.loc 2) .nil))))) (.cons (.ift (.cal (.glb 6) (.cons (.loc 114) (.cons (.loc 207) (.cons (.loc 2) .nil)))) (.cons (.ex (.met (.att (.loc 198) 179) 208 (.cons (.loc 207) (.cons (.loc 94) .nil)))) .nil) .nil) (.cons (.ex (.met (.loc 53) 140 (.cons (.met (.loc 198) 202 (.cons (.cal (.glb 209) (.cons (.loc 203) (.cons (.loc 144) .nil))) (.cons (.loc 10) (.cons (.loc 76) .nil)))) .nil))) .nil)))) (.cons (.ret (.loc 53)) .nil)))))
noncomputable def fi_956 : FI := ⟨[198, 94], [], fb_956⟩
noncomputable def fb_963 : X := (.cons (.ex (.cal (.glb 210) (.cons (.loc 198) .nil))) (.cons (.asg (.loc 53) (.lst .nil)) (.cons (.ift (.cmp .In (.att (.loc 198) 47) (.tup (.cons (.glb 56) (.cons (.glb 57) .nil)))) (.cons (.ift (.cmp .Eq (.att (.att (.loc 198) 176) 119) (.att (.att (.loc 198) 176) 117)) (.cons (.ex (.met (.loc 53) 140 (.cons (.cal (.glb 211) (.cons (.loc 198) .nil)) .nil))) (.cons (.ex (.met (.att (.loc 198) 179) 208 (.cons (.att (.att (.loc 198) 176) 119) (.cons (.loc 94) .nil)))) .nil)) .nil) .nil) (.cons (.ift (.cal (.glb 205) (.cons (.att (.loc 198) 47) .nil)) (.cons (.asg (.loc 53) (.cal (.glb 212) (.cons (.loc 198) (.cons (.loc 94) .nil)))) .nil) .nil) .nil)) (.cons (.ex (.cal (.glb 213) (.cons (.loc 198) (.cons (.loc 94) .nil)))) (.cons (.ret (.loc 53)) .nil)))))
noncomputable def fi_963 : FI := ⟨[198, 94], [], fb_963⟩
noncomputable def fb_970 : X := (.cons (.ift (.cmp .Gt (.met (.att (.loc 198) 176) 78 .nil) (.k (.int (.k 0)))) (.cons (.ex (.met (.att (.loc 198) 185) 129 (.cons (.glb 199) (.cons (.met (.att (.loc 198) 179) 214 (.cons (.loc 94) .nil)) .nil)))) .nil) (.cons (.ex (.met (.att (.loc 198) 185) 156 (.cons (.glb 199) .nil))) .nil)) .nil)
noncomputable def fi_970 : FI := ⟨[198, 94], [], fb_970⟩
noncomputable def fb_977 : X := (.cons (.ift (.cmp .In (.att (.loc 198) 47) (.tup (.cons (.glb 49) (.cons (.glb 48) (.cons (.glb 52) .nil))))) (.cons .ret0 .nil) .nil) (.cons (.ift (.cmp .Eq (.met (.att (.loc 198) 176) 78 .nil) (.k (.int (.k 0)))) (.cons (.ex (.met (.att (.loc 198) 185) 156 (.cons (.glb 199) .nil))) .nil) (.cons (.ift (.cmp .Is (.met (.att (.loc 198) 185) 215 (.cons (.glb 199) .nil)) (.k .none)) (.cons (.ex (.met (.att (.loc 198) 185) 129 (.cons (.glb 199) (.cons (.met (.att (.loc 198) 179) 214 (.cons (.loc 94) .nil)) .nil)))) .nil) .nil) .nil)) (.cons (.ift (.or_ (.cons (.not_ (.cal (.glb 205) (.cons (.att (.loc 198) 47) .nil))) (.cons (.not_ (.met (.att (.loc 198) 176) 216 .nil)) .nil))) (.cons (.ex (.met (.att (.loc 198) 185) 156 (.cons (.glb 200) .nil))) (.cons (.asg (.att (.loc 198) 188) (.k (.int (.k 0)))) .nil)) (.cons (.ift (.cmp .Is (.met (.att (.loc 198) 185) 215 (.cons (.glb 200) .nil)) (.k .none)) (.cons (.ex (.met (.att (.loc 198) 185) 129 (.cons (.glb 200) (.cons (.bin .Add (.loc 94) (.cal (.glb 217) (.cons (.loc 198) .nil))) .nil)))) .nil) .nil) .nil)) .nil)))
noncomputable def fi_977 : FI := ⟨[198, 94], [], fb_977⟩
noncomputable def fb_991 : X := (.cons (.ex (.met (.att (.loc 198) 179) 218 .nil)) (.cons (.asg (.tup (.cons (.loc 10) (.cons (.loc 76) (.cons (.loc 219) (.cons (.loc 144) .nil))))) (.met (.att (.loc 198) 176) 220 .nil)) (.cons (.ift (.loc 219) (.cons (.ret (.met (.loc 198) 202 (.cons (.glb 21) (.cons (.loc 10) .nil)))) .nil) .nil) (.cons (.ret (.met (.loc 198) 202 (.cons (.cal (.glb 209) (.cons (.k (.bool true)) (.cons (.loc 144) .nil))) (.cons (.loc 10) (.cons (.loc 76) .nil))))) .nil))))
noncomputable def fi_991 : FI := ⟨[198], [], fb_991⟩
noncomputable def fb_998 : X := (.cons (.ift (.met (.loc 221) 20 (.cons (.glb 222) .nil)) (.cons (.ret (.lst .nil)) .nil) .nil) (.cons (.ift (.and_ (.cons (.cmp .Eq (.att (.loc 198) 47) (.glb 52)) (.cons (.met (.loc 221) 20 (.cons (.glb 22) .nil)) .nil))) (.cons (.ex (.cal (.glb 223) (.cons (.loc 198) (.cons (.loc 94) .nil)))) .nil) .nil) (.cons (.asg (.loc 53) (.lst .nil)) (.cons (.ift (.cal (.glb 224) (.cons (.loc 198) (.cons (.loc 221) .nil))) (.cons (.asg (.loc 53) (.cal (.glb 225) (.cons (.loc 198) (.cons (.loc 221) (.cons (.loc 94) .nil))))) (.cons (.ift (.cmp .Eq (.att (.loc 198) 47) (.glb 49)) (.cons (.ret (.loc 53)) .nil) .nil) (.cons (.asg (.loc 53) (.bin .Add (.loc 53) (.cal (.glb 226) (.cons (.loc 198) (.cons (.loc 94) .nil))))) .nil))) .nil) (.cons (.ret (.bin .Add (.loc 53) (.lst (.cons (.cal (.glb 227) (.cons (.loc 198) .nil)) .nil)))) .nil)))))
noncomputable def fi_998 : FI := ⟨[198, 221, 94], [], fb_998⟩
noncomputable def fb_1005 : X := (.cons (.ift (.or_ (.cons (.not_ (.met (.loc 221) 20 (.cons (.glb 191) .nil))) (.cons (.met (.loc 221) 20 (.cons (.glb 21) .nil)) (.cons (.not_ (.cal (.glb 228) (.cons (.att (.loc 198) 47) .nil))) .nil)))) (.cons (.ret (.k (.bool false))) .nil) .nil) (.cons (.ret (.and_ (.cons (.cal (.glb 6) (.cons (.att (.loc 221) 10) (.cons (.att (.att (.loc 198) 178) 119) (.cons (.att (.att (.loc 198) 172) 2) .nil)))) (.cons (.not_ (.cal (.glb 229) (.cons (.loc 198) (.cons (.att (.loc 221) 11) .nil)))) .nil)))) .nil))
noncomputable def fi_1005 : FI := ⟨[198, 221], [], fb_1005⟩
noncomputable def fb_1012 : X := (.cons (.asg (.loc 176) (.att (.loc 198) 176)) (.cons (.asg (.loc 2) (.att (.att (.loc 198) 172) 2)) (.cons (.ret (.and_ (.cons (.not_ (.cal (.glb 6) (.cons (.loc 11) (.cons (.att (.loc 176) 118) (.cons (.loc 2) .nil))))) (.cons (.cmp .Gt (.cal (.glb 5) (.cons (.att (.loc 176) 118) (.cons (.loc 11) (.cons (.loc 2) .nil)))) (.met (.loc 176) 142 .nil)) .nil)))) .nil)))
noncomputable def fi_1012 : FI := ⟨[198, 11], [], fb_1012⟩
noncomputable def fb_1019 : X := (.cons (.asg (.tup (.cons (.loc 76) (.cons (.loc 148) (.cons (.loc 230) .nil)))) (.met (.att (.loc 198) 176) 231 (.cons (.loc 11) .nil))) (.cons (.ex (.met (.att (.loc 198) 179) 231 (.cons (.loc 11) (.cons (.loc 94) (.cons (.att (.att (.loc 198) 172) 2) .nil))))) (.cons (.ift (.or_ (.cons (.cmp .Gt (.loc 76) (.k (.int (.k 0)))) (.cons (.att (.att (.loc 198) 181) 74) .nil))) (.cons (.ex (.met (.att (.loc 198) 181) 231 (.cons (.loc 76) .nil))) .nil) .nil) (.cons (.ex (.cal (.glb 232) (.cons (.loc 198) (.cons (.loc 94) .nil)))) (.cons (.ret (.loc 230)) .nil)))))
noncomputable def fi_1019 : FI := ⟨[198, 11, 94], [], fb_1019⟩
noncomputable def fb_1026 : X := (.cons (.asg (.loc 176) (.att (.loc 198) 176)) (.cons (.asg (.loc 2) (.att (.att (.loc 198) 172) 2)) (.cons (.asg (.att (.loc 198) 189) (.k (.int (.k 0)))) (.cons (.ift (.cal (.glb 6) (.cons (.att (.loc 221) 11) (.cons (.att (.loc 176) 118) (.cons (.loc 2) .nil)))) (.cons (.ret (.lst .nil)) .nil) .nil) (.cons (.ift (.cmp .Eq (.att (.loc 221) 11) (.att (.loc 176) 118)) (.cons (.asg (.loc 53) (.cal (.glb 233) (.cons (.loc 198) (.cons (.loc 221) (.cons (.loc 94) .nil))))) (.cons (.ex (.met (.loc 176) 234 (.cons (.att (.loc 221) 10) (.cons (.att (.loc 221) 11) (.cons (.att (.loc 221) 13) .nil))))) (.cons (.ift (.cmp .Eq (.att (.loc 176) 13) (.k (.int (.k 0)))) (.cons (.ex (.met (.att (.loc 198) 179) 235 .nil)) .nil) .nil) (.cons (.ret (.loc 53)) .nil)))) .nil) (.cons (.asg (.loc 18) (.cal (.glb 5) (.cons (.att (.loc 176) 118) (.cons (.att (.loc 221) 11) (.cons (.loc 2) .nil))))) (.cons (.asg (.loc 230) (.cal (.glb 236) (.cons (.loc 198) (.cons (.att (.loc 221) 11) (.cons (.loc 94) .nil))))) (.cons (.ift (.not_ (.met (.loc 176) 234 (.cons (.att (.loc 221) 10) (.cons (.att (.loc 221) 11) (.cons (.att (.loc 221) 13) .nil))))) (.cons (.ex (.met (.att (.loc 176) 121) 237 (.cons (.loc 18) .nil))) .nil) .nil) (.cons (.ift (.loc 230) (.cons (.ex (.cal (.glb 238) (.cons (.loc 198) (.cons (.loc 94) .nil)))) .nil) .nil) (.cons (.ret (.lst .nil)) .nil))))))))))
noncomputable def fi_1026 : FI := ⟨[198, 221, 94], [], fb_1026⟩
noncomputable def fb_1033 : X := (.cons (.asg (.loc 176) (.att (.loc 198) 176)) (.cons (.ift (.or_ (.cons (.cmp .Gt (.met (.loc 221) 239 .nil) (.k (.int (.k 0)))) (.cons (.cmp .Eq (.met (.loc 176) 78 .nil) (.k (.int (.k 0)))) (.cons (.cmp .NotEq (.att (.loc 221) 13) (.att (.loc 176) 13)) .nil)))) (.cons (.ret (.lst .nil)) .nil) .nil) (.cons (.ift (.cmp .NotEq (.met (.att (.loc 198) 181) 240 (.cons (.met (.loc 176) 78 .nil) .nil)) (.k (.str 86))) (.cons (.ret (.lst .nil)) .nil) .nil) (.cons (.asg (.loc 53) (.lst (.cons (.cal (.glb 241) (.cons (.loc 198) .nil)) .nil))) (.cons (.ex (.cal (.glb 232) (.cons (.loc 198) (.cons (.loc 94) .nil)))) (.cons (.ret (.loc 53)) .nil))))))
noncomputable def fi_1033 : FI := ⟨[198, 221, 94], [], fb_1033⟩
noncomputable def fb_1040 : X := (.cons (.ift (.cmp .Eq (.att (.loc 198) 47) (.glb 62)) (.cons (.ex (.cal (.glb 25) (.cons (.loc 198) (.cons (.k .none) .nil)))) .nil) (.cons (.ift (.cmp .Eq (.att (.loc 198) 47) (.glb 61)) (.cons (.ex (.cal (.glb 223) (.cons (.loc 198) (.cons (.loc 94) .nil)))) .nil) (.cons (.ift (.cmp .Eq (.att (.loc 198) 47) (.glb 59)) (.cons (.ex (.cal (.glb 242) (.cons (.loc 198) (.cons (.k (.str 42)) .nil)))) .nil) .nil) .nil)) .nil)) .nil)
noncomputable def fi_1040 : FI := ⟨[198, 94], [], fb_1040⟩
noncomputable def fb_1054 : X := (.cons (.asg (.att (.loc 7) 2) (.loc 2)) (.cons (.asg (.att (.loc 7) 243) (.lst .nil)) .nil))
noncomputable def fi_1054 : FI := ⟨[7, 2], [], fb_1054⟩
noncomputable def fb_1151 : X := (.cons (.asg (.att (.loc 7) 2) (.loc 2)) (.cons (.asg (.att (.loc 7) 106) (.loc 106)) (.cons (.asg (.att (.loc 7) 67) (.loc 67)) (.cons (.asg (.att (.loc 7) 119) (.cal (.glb 133) (.cons (.loc 244) (.cons (.k (.int (.k 1))) (.cons (.loc 2) .nil))))) (.cons (.asg (.att (.loc 7) 245) (.cal (.glb 246) .nil)) (.cons (.asg (.att (.loc 7) 247) (.cal (.glb 248) (.cons (.loc 2) .nil))) (.cons (.asg (.att (.loc 7) 249) (.cal (.glb 133) (.cons (.att (.loc 7) 119) (.cons (.loc 106) (.cons (.loc 2) .nil))))) (.cons (.asg (.att (.loc 7) 250) (.k .none)) (.cons (.asg (.att (.loc 7) 144) (.k (.bool false))) (.cons (.asg (.att (.loc 7) 251) (.k .none)) .nil))))))))))
noncomputable def fi_1151 : FI := ⟨[7, 244, 2, 106, 67], [], fb_1151⟩
noncomputable def fb_1158 : X := (.cons (.ret (.cal (.glb 133) (.cons (.att (.loc 7) 119) (.cons (.bin .Sub (.att (.loc 7) 106) (.cal (.glb 19) (.cons (.att (.loc 7) 245) .nil))) (.cons (.att (.loc 7) 2) .nil))))) .nil)
noncomputable def fi_1158 : FI := ⟨[7], [], fb_1158⟩
noncomputable def fb_1165 : X := (.cons (.ift (.or_ (.cons (.att (.loc 7) 144) (.cons (.not_ (.cal (.glb 6) (.cons (.att (.loc 7) 249) (.cons (.met (.loc 7) 252 .nil) (.cons (.att (.loc 7) 2) .nil))))) .nil))) (.cons (.ret (.k (.bool false))) .nil) .nil) (.cons (.ret (.cmp .GtE (.cal (.glb 5) (.cons (.att (.loc 7) 249) (.cons (.met (.loc 7) 252 .nil) (.cons (.att (.loc 7) 2) .nil)))) (.cal (.glb 116) (.cons (.k (.int (.k 1))) (.cons (.cal (.glb 109) (.cons (.loc 67) (.cons (.bin .FloorDiv (.att (.loc 7) 106) (.k (.int (.k 2)))) .nil))) .nil))))) .nil))
noncomputable def fi_1165 : FI := ⟨[7, 67], [], fb_1165⟩
noncomputable def fb_1172 : X := (.cons (.ift (.cal (.glb 6) (.cons (.att (.loc 7) 249) (.cons (.att (.loc 7) 119) (.cons (.att (.loc 7) 2) .nil)))) (.cons (.ret (.k (.int (.k 0)))) .nil) .nil) (.cons (.ret (.cal (.glb 5) (.cons (.att (.loc 7) 119) (.cons (.att (.loc 7) 249) (.cons (.att (.loc 7) 2) .nil))))) .nil))
noncomputable def fi_1172 : FI := ⟨[7], [], fb_1172⟩
noncomputable def fb_1179 : X := (.cons (.ift (.met (.loc 7) 253 (.cons (.att (.loc 7) 67) .nil)) (.cons (.asg (.att (.loc 7) 249) (.met (.loc 7) 252 .nil)) .nil) .nil) (.cons (.ret (.met (.loc 7) 254 .nil)) .nil))
noncomputable def fi_1179 : FI := ⟨[7], [], fb_1179⟩
noncomputable def fb_1298 : X := (.cons (.asg (.loc 198) (.cal (.glb 255) (.cons (.cal (.glb 256) (.cons (.loc 2) (.cons (.k (.int (.k 4))) (.cons (.k (.int (.k 40))) (.cons (.k (.int (.k 16))) (.cons (.k (.int (.k 10))) (.cons (.k (.int (.k 5))) (.cons (.k (.int (.k 60))) (.cons (.k (.int (.k 3))) (.cons (.k (.int (.k 2))) (.cons (.k (.int (.k 7))) .nil))))))))))) (.cons (.tup (.cons (.k (.int (.k 1))) (.cons (.k (.int (.k 80))) .nil))) (.cons (.tup (.cons (.k (.int (.k 2))) (.cons (.k (.int (.k 90))) .nil))) (.cons (.bin .Sub (.loc 2) (.k (.int (.k 7)))) .nil)))))) (.cons (.asg (.tup (.cons (.att (.loc 198) 178) (.cons (.att (.loc 198) 47) (.cons (.loc 176) .nil)))) (.tup (.cons (.cal (.glb 257) (.cons (.bin .Sub (.loc 2) (.k (.int (.k 4)))) (.cons (.loc 2) (.cons (.k (.int (.k 16))) (.cons (.k (.int (.k 4))) .nil))))) (.cons (.loc 47) (.cons (.att (.loc 198) 176) .nil))))) (.cons (.ex (.met (.loc 176) 234 (.cons (.bin .Sub (.loc 2) (.k (.int (.k 6)))) (.cons (.bin .Sub (.loc 2) (.k (.int (.k 6)))) (.cons (.k (.int (.k 40))) .nil))))) (.cons (.ift (.cmp .Eq (.loc 47) (.k (.str 30))) (.cons (.ex (.met (.loc 176) 258 .nil)) (.cons (.ret (.loc 198)) .nil)) .nil) (.cons (.ex (.met (.loc 176) 129 (.cons (.cal (.glb 24) (.cons (.cal (.glb 98) (.cons (.k (.int (.k 1))) (.cons (.bin .Add (.loc 18) (.k (.int (.k 1)))) .nil))) .nil)) .nil))) (.cons (.asg (.tup (.cons (.att (.loc 176) 125) (.cons (.att (.loc 176) 118) .nil))) (.tup (.cons (.k (.bool false)) (.cons (.bin .Sub (.loc 2) (.k (.int (.k 6)))) .nil)))) (.cons (.asg (.att (.loc 176) 119) (.bin .Mod (.bin .Add (.bin .Add (.bin .Sub (.loc 2) (.k (.int (.k 6)))) (.loc 18)) (.cal (.glb 130) (.cons (.cal (.glb 259) (.cons (.loc 47) .nil)) .nil))) (.loc 2))) (.cons (.asg (.att (.loc 176) 120) (.att (.loc 176) 119)) (.cons (.ift (.cmp .NotIn (.loc 47) (.lst (.cons (.k (.str 32)) (.cons (.k (.str 36)) .nil)))) (.cons (.ex (.met (.loc 176) 260 .nil)) (.cons (.asg (.att (.loc 176) 127) (.k (.bool true))) .nil)) .nil) (.cons (.ret (.loc 198)) .nil))))))))))
noncomputable def fi_1298 : FI := ⟨[2, 47, 18], [], fb_1298⟩
noncomputable def fb_1305 : X := (.cons (.ret (.cmp .In (.loc 47) (.lst (.cons (.k (.str 35)) (.cons (.k (.str 39)) (.cons (.k (.str 37)) .nil)))))) .nil)
noncomputable def fi_1305 : FI := ⟨[47], [], fb_1305⟩
noncomputable def fb_1312 : X := (.cons (.ift (.loc 261) (.cons (.asg (.loc 53) (.sub (.dics [35, 39, 37] [40, 41, 25]) (.loc 47))) (.cons (.ret (.tup (.cons (.loc 53) (.cons (.cmp .Eq (.loc 53) (.k (.str 41))) .nil)))) .nil)) .nil) (.cons (.ret (.tup (.cons (.loc 47) (.cons (.and_ (.cons (.cmp .Eq (.loc 47) (.k (.str 41))) (.cons (.loc 144) .nil))) .nil)))) .nil))
noncomputable def fi_1312 : FI := ⟨[47, 261, 144], [], fb_1312⟩
noncomputable def fb_1319 : X := (.cons (.ift (.or_ (.cons (.not_ (.loc 262)) (.cons (.cmp .Lt (.loc 263) (.k (.int (.k 0)))) .nil))) (.cons (.ret (.k (.int (.k 40)))) .nil) .nil) (.cons (.ret (.ife (.cmp .GtE (.loc 264) (.neg (.k (.int (.k 3))))) (.loc 265) (.bin .Sub (.k (.int (.k 40))) (.loc 266)))) .nil))
noncomputable def fi_1319 : FI := ⟨[265, 264, 263, 266, 262], [], fb_1319⟩
noncomputable def fb_1324 : X := (.cons (.asg (.tup (.cons (.loc 12) (.cons (.loc 264) (.cons (.loc 263) (.cons (.loc 265) .nil))))) (.loc 267)) (.cons (.asg (.loc 268) (.bin .Add (.loc 18) (.cal (.glb 130) (.cons (.cal (.glb 259) (.cons (.loc 47) .nil)) .nil)))) (.cons (.asg (.tup (.cons (.loc 269) (.cons (.loc 270) .nil))) (.tup (.cons (.cmp .Eq (.bin .Mod (.bin .FloorDiv (.loc 12) (.k (.int (.k 4)))) (.k (.int (.k 2)))) (.k (.int (.k 1)))) (.cons (.and_ (.cons (.cmp .Eq (.bin .Mod (.bin .FloorDiv (.loc 12) (.k (.int (.k 2)))) (.k (.int (.k 2)))) (.k (.int (.k 0)))) (.cons (.cmp .Eq (.bin .Mod (.bin .FloorDiv (.loc 12) (.k (.int (.k 16)))) (.k (.int (.k 2)))) (.k (.int (.k 1)))) .nil))) .nil)))) (.cons (.asg (.loc 271) (.and_ (.cons (.loc 270) (.cons (.not_ (.loc 269)) (.cons (.cmp .NotEq (.loc 47) (.k (.str 30))) (.cons (.cmp2 .Lt .Lt (.bin .Sub (.k (.int (.k 0))) (.bin .FloorDiv (.loc 2) (.k (.int (.k 2))))) (.loc 264) (.k (.int (.k 0)))) (.cons (.cmp .LtE (.loc 263) (.loc 268)) .nil))))))) (.cons (.asg (.loc 266) (.ife (.loc 271) (.cal (.glb 116) (.cons (.k (.int (.k 0))) (.cons (.loc 263) .nil))) (.k (.int (.k 0))))) (.cons (.asg (.loc 261) (.cmp .Gt (.loc 266) (.loc 18))) (.cons (.asg (.loc 272) (.att (.att (.loc 198) 176) 119)) (.cons (.asg (.loc 221) (.cal (.glb 196) (.cons (.k (.int (.k 90))) (.cons (.k (.int (.k 80))) (.cons (.bin .Mod (.bin .Add (.bin .Sub (.loc 2) (.k (.int (.k 3)))) (.loc 264)) (.loc 2)) (.cons (.bin .Mod (.bin .Add (.bin .Sub (.loc 2) (.k (.int (.k 6)))) (.loc 263)) (.loc 2)) (.cons (.loc 12) (.cons (.loc 265) (.cons (.k (.int (.k 0))) (.cons (.k (.bytes (.k []))) (.cons (.k (.bytes (.k []))) .nil))))))))))) (.cons (.asg (.loc 273) (.lcp (some 267) 274 (.cal (.glb 275) (.cons (.loc 198) (.cons (.loc 221) (.cons (.k (.int (.k 5))) .nil)))))) (.cons (.asg (.tup (.cons (.loc 276) (.cons (.loc 277) .nil))) (.cal (.glb 278) (.cons (.loc 47) (.cons (.loc 261) (.cons (.and_ (.cons (.cmp .Eq (.bin .Mod (.loc 12) (.k (.int (.k 2)))) (.k (.int (.k 1)))) (.cons (.not_ (.loc 269)) .nil))) .nil))))) (.cons (.asg (.loc 279) (.and_ (.cons (.not_ (.loc 269)) (.cons (.cmp .NotEq (.loc 276) (.k (.str 25))) .nil)))) (.cons (.ift (.or_ (.cons (.cmp .NotEq (.loc 273) (.bin .Mult (.lst (.cons (.tup (.cons (.k (.int (.k 80))) (.cons (.k (.int (.k 90))) (.cons (.loc 272) (.cons (.bin .Sub (.loc 2) (.k (.int (.k 3)))) (.cons (.k (.int (.k 16))) (.cons (.k (.int (.k 16))) (.cons (.k (.int (.k 0))) (.cons (.k (.bytes (.k []))) (.cons (.k (.bytes (.k []))) .nil)))))))))) .nil)) (.cal (.glb 130) (.cons (.loc 279) .nil)))) (.cons (.cmp .NotEq (.att (.loc 198) 47) (.loc 276)) .nil))) (.cons (.ret (.k (.bool false))) .nil) .nil) (.cons (.asg (.loc 280) (.ife (.cmp .Eq (.loc 47) (.k (.str 41))) (.k (.int (.k 9))) (.k .none))) (.cons (.ift (.cmp .NotEq (.met (.att (.loc 198) 185) 215 (.cons (.glb 201) .nil)) (.ife (.loc 277) (.k (.int (.k 12))) (.loc 280))) (.cons (.ret (.k (.bool false))) .nil) .nil) (.cons (.asg (.tup (.cons (.loc 176) (.cons (.loc 118) .nil))) (.tup (.cons (.att (.loc 198) 176) (.cons (.ife (.cmp .Eq (.loc 47) (.k (.str 30))) (.bin .Sub (.loc 2) (.k (.int (.k 7)))) (.bin .Mod (.bin .Add (.bin .Sub (.loc 2) (.k (.int (.k 6)))) (.loc 266)) (.loc 2))) .nil)))) (.cons (.ift (.cmp .NotEq (.lst (.cons (.att (.loc 176) 118) (.cons (.att (.loc 176) 119) (.cons (.att (.loc 176) 13) .nil)))) (.lst (.cons (.loc 118) (.cons (.loc 272) (.cons (.cal (.glb 281) (.cons (.loc 265) (.cons (.loc 264) (.cons (.loc 263) (.cons (.loc 266) (.cons (.loc 271) .nil)))))) .nil))))) (.cons (.ret (.k (.bool false))) .nil) .nil) (.cons (.ret (.or_ (.cons (.cmp .Eq (.loc 47) (.k (.str 30))) (.cons (.cmp .Eq (.att (.att (.loc 176) 123) 107) (.sll (.cal (.glb 24) (.cons (.cal (.glb 98) (.cons (.k (.int (.k 1))) (.cons (.bin .Add (.loc 18) (.k (.int (.k 1)))) .nil))) .nil)) (.cal (.glb 109) (.cons (.loc 18) (.cons (.loc 266) .nil))))) .nil)))) .nil)))))))))))))))))
noncomputable def fi_1324 : FI := ⟨[2, 47, 18, 267, 198], [], fb_1324⟩
noncomputable def fb_1331 : X := (.cons (.asg (.loc 282) (.ife (.cmp .In (.loc 47) (.lst (.cons (.k (.str 30)) (.cons (.k (.str 40)) (.cons (.k (.str 41)) .nil))))) (.k (.int (.k 0))) (.loc 18))) (.cons (.asg (.loc 198) (.cal (.glb 283) (.cons (.loc 2) (.cons (.loc 47) (.cons (.loc 282) .nil))))) (.cons (.ift (.cmp .Eq (.loc 47) (.k (.str 41))) (.cons (.ex (.met (.att (.loc 198) 185) 129 (.cons (.glb 201) (.cons (.k (.int (.k 9))) .nil)))) .nil) .nil) (.cons (.ret (.cal (.glb 284) (.cons (.loc 2) (.cons (.loc 47) (.cons (.loc 282) (.cons (.loc 267) (.cons (.loc 198) .nil))))))) .nil))))
noncomputable def fi_1331 : FI := ⟨[2, 47, 18, 267], [], fb_1331⟩
noncomputable def fb_1336 : X := (.cons (.asg (.loc 198) (.cal (.glb 283) (.cons (.loc 2) (.cons (.k (.str 32)) (.cons (.k (.int (.k 8))) .nil))))) (.cons (.asg (.loc 221) (.cal (.glb 196) (.cons (.k (.int (.k 90))) (.cons (.k (.int (.k 80))) (.cons (.bin .Sub (.loc 2) (.k (.int (.k 4)))) (.cons (.bin .Sub (.loc 2) (.k (.int (.k 6)))) (.cons (.k (.int (.k 16))) (.cons (.k (.int (.k 40))) (.cons (.k (.int (.k 0))) (.cons (.k (.bytes (.k []))) (.cons (.k (.bytes (.k []))) .nil))))))))))) (.cons (.asg (.loc 285) (.tup (.cons (.k (.int (.k 80))) (.cons (.k (.int (.k 90))) (.cons (.k (.int (.k 2))) (.cons (.bin .Sub (.loc 2) (.k (.int (.k 3)))) (.cons (.k (.int (.k 16))) (.cons (.k (.int (.k 16))) (.cons (.k (.int (.k 0))) (.cons (.k (.bytes (.k []))) (.cons (.k (.bytes (.k []))) .nil))))))))))) (.cons (.asg (.loc 286) (.tup (.cons (.k (.int (.k 80))) (.cons (.k (.int (.k 90))) (.cons (.bin .Sub (.loc 2) (.k (.int (.k 6)))) (.cons (.bin .Sub (.loc 2) (.k (.int (.k 3)))) (.cons (.k (.int (.k 24))) (.cons (.k (.int (.k 16))) (.cons (.k (.int (.k 0))) (.cons (.k (.bytes (.k []))) (.cons (.cal (.glb 24) (.cons (.lst (.cons (.k (.int (.k 1))) (.cons (.k (.int (.k 2))) (.cons (.k (.int (.k 3))) (.cons (.k (.int (.k 4))) .nil))))) .nil)) .nil))))))))))) (.cons (.for_ (.loc 97) (.cal (.glb 98) (.cons (.k (.int (.k 4))) .nil)) (.cons (.asg (.loc 273) (.lcp (some 267) 274 (.cal (.glb 275) (.cons (.loc 198) (.cons (.loc 221) (.cons (.bin .Add (.k (.int (.k 5))) (.loc 97)) .nil)))))) (.cons (.ift (.cmp .NotEq (.loc 273) (.bin .Add (.bin .Mult (.lst (.cons (.loc 286) .nil)) (.cal (.glb 130) (.cons (.cmp .Eq (.loc 97) (.k (.int (.k 2)))) .nil))) (.lst (.cons (.loc 285) .nil)))) (.cons (.ret (.k (.bool false))) .nil) .nil) .nil))) (.cons (.ret (.k (.bool true))) .nil))))))
noncomputable def fi_1336 : FI := ⟨[2], [], fb_1336⟩
noncomputable def ci_146 : CI := ⟨122, [(8, none), (9, none), (10, none), (11, none), (12, none), (13, none), (14, none), (15, none), (16, none), (20, some (.fn 129)), (239, some (.fn 136)), (267, some (.fn 143))]⟩
noncomputable def ci_252 : CI := ⟨213, [(63, none), (64, none), (65, none), (66, none), (192, some (.fn 242))]⟩
noncomputable def ci_343 : CI := ⟨270, [(67, none), (68, none), (69, none), (71, none), (72, none), (73, none), (74, none), (75, none), (13, some (.fn 277)), (82, some (.fn 291)), (85, some (.fn 298)), (231, some (.fn 305)), (80, some (.fn 312)), (240, some (.fn 326))]⟩
noncomputable def ci_420 : CI := ⟨361, [(87, none), (88, none), (89, none), (90, none), (91, none), (218, some (.fn 382)), (231, some (.fn 389)), (235, some (.fn 403)), (101, some (.fn 410)), (214, some (.fn 417))]⟩
noncomputable def ci_476 : CI := ⟨438, [(70, none), (102, none), (68, none), (103, none), (104, none), (93, none), (105, some (.fn 459)), (51, some (.fn 466)), (100, some (.fn 473))]⟩
noncomputable def ci_532 : CI := ⟨494, [(106, none), (107, none), (69, some (.fn 501)), (110, some (.fn 508)), (129, some (.fn 515)), (145, some (.fn 522)), (149, some (.fn 529))]⟩
noncomputable def ci_574 : CI := ⟨550, [(2, none), (69, none), (68, none), (112, none), (113, none), (115, some (.fn 557)), (128, some (.fn 564)), (237, some (.fn 571))]⟩
noncomputable def ci_765 : CI := ⟨592, [(117, none), (2, none), (67, none), (118, none), (119, none), (120, none), (121, none), (123, none), (125, none), (126, none), (127, none), (13, some (.prop 599)), (234, some (.fn 607)), (129, some (.fn 614)), (260, some (.fn 621)), (78, some (.fn 628)), (131, some (.fn 642)), (136, some (.fn 649)), (137, some (.fn 656)), (132, some (.fn 663)), (135, some (.fn 677)), (258, some (.fn 684)), (206, some (.fn 699)), (142, some (.fn 713)), (220, some (.fn 720)), (143, some (.fn 727)), (146, some (.fn 741)), (216, some (.fn 748)), (231, some (.fn 762))]⟩
noncomputable def ci_832 : CI := ⟨782, [(69, none), (150, none), (152, none), (153, none), (154, none), (155, none), (129, some (.fn 789)), (159, some (.fn 796)), (156, some (.fn 803)), (215, some (.fn 810))]⟩
noncomputable def ci_853 : CI := ⟨850, [(2, none), (67, none), (164, none), (165, none), (166, none), (167, none), (168, none), (88, none), (169, none), (170, none)]⟩
noncomputable def ci_896 : CI := ⟨878, [(172, none), (174, none), (175, none), (47, none), (176, none), (178, none), (179, none), (181, none), (183, none), (185, none), (187, none), (188, none), (189, none), (141, none), (195, some (.fn 885)), (202, some (.fn 893))]⟩
noncomputable def ci_1132 : CI := ⟨1054, [(2, none), (243, none)]⟩
noncomputable def ci_1266 : CI := ⟨1151, [(2, none), (106, none), (67, none), (119, none), (245, none), (247, none), (249, none), (250, none), (144, none), (251, none), (252, some (.fn 1158)), (253, some (.fn 1165)), (254, some (.fn 1172)), (13, some (.fn 1179))]⟩
noncomputable def clsT : Tr CI := (.node none (.node none (.node none (.node none .nil (.node none .nil (.node none (.node none .nil (.node none (.node (some ci_343) .nil .nil) .nil)) .nil))) .nil) (.node none .nil (.node none (.node none .nil (.node none (.node none .nil (.node none (.node none .nil (.node (some ci_853) .nil .nil)) .nil)) .nil)) (.node none .nil (.node none .nil (.node none .nil (.node none .nil (.node none (.node (some ci_765) .nil .nil) .nil)))))))) (.node none (.node none (.node none (.node none (.node none (.node none (.node none .nil (.node none .nil (.node (some ci_896) .nil .nil))) (.node none (.node none .nil (.node (some ci_832) .nil .nil)) .nil)) .nil) .nil) .nil) (.node none (.node none (.node none .nil (.node none (.node none .nil (.node (some ci_420) .nil .nil)) .nil)) (.node none (.node none (.node none (.node none (.node (some ci_532) .nil .nil) .nil) .nil) .nil) .nil)) (.node none (.node none .nil (.node none .nil (.node none (.node none (.node none (.node (some ci_1132) .nil .nil) .nil) .nil) .nil))) (.node none (.node none .nil (.node none .nil (.node (some ci_476) .nil .nil))) (.node none .nil (.node (some ci_252) .nil .nil)))))) (.node none (.node none (.node none .nil (.node none (.node none (.node (some ci_146) .nil .nil) .nil) (.node none .nil (.node none .nil (.node none (.node none (.node (some ci_1266) .nil .nil) .nil) .nil))))) .nil) (.node none .nil (.node none .nil (.node none .nil (.node none (.node none (.node none (.node (some ci_574) .nil .nil) .nil) .nil) .nil)))))))
noncomputable def globT : Tr XV := (.node none (.node none (.node none (.node none (.node none (.node none (.node none (.node none (.node (some (.sta 896)) .nil .nil) .nil) (.node (some (.int (.k 16))) .nil .nil)) (.node none (.node none (.node (some (.sta 21)) .nil .nil) .nil) (.node (some (.sta 921)) .nil .nil))) .nil) (.node none (.node none (.node none .nil (.node (some (.int (.k 1))) .nil .nil)) (.node none (.node none (.node (some (.sta 1284)) .nil .nil) .nil) .nil)) (.node (some (.sta 178)) .nil .nil))) (.node none (.node (some (.bi 2)) (.node none (.node none (.node none (.node (some (.sta 1305)) .nil .nil) .nil) .nil) (.node (some (.int (.k 7))) (.node none (.node (some (.sta 157)) .nil .nil) .nil) (.node (some (.sta 928)) .nil .nil))) (.node none (.node (some (.int (.k 3))) (.node none (.node (some (.sta 998)) .nil .nil) .nil) (.node (some (.sta 935)) .nil .nil)) .nil)) (.node none (.node none .nil (.node none (.node (some (.sta 476)) (.node (some (.sta 1343)) .nil .nil) .nil) .nil)) (.node (some (.str 35)) (.node none (.node none (.node (some (.sta 1298)) .nil .nil) .nil) .nil) .nil)))) (.node (some (.sta 35)) (.node none (.node none (.node none (.node none (.node none (.node (some (.sta 1266)) .nil .nil) .nil) (.node (some (.int (.k 3))) .nil .nil)) (.node none (.node none (.node (some (.int (.k 2))) .nil .nil) .nil) (.node (some (.sta 1026)) .nil .nil))) (.node (some (.str 25)) (.node none .nil (.node (some (.sta 942)) .nil .nil)) (.node none (.node (some (.sta 765)) .nil .nil) (.node (some (.sta 991)) .nil .nil)))) (.node (some (.sta 914)) (.node none (.node none .nil (.node (some (.int (.k 4))) .nil .nil)) (.node none (.node none (.node (some (.sta 1331)) .nil .nil) .nil) (.node (some (.sta 1033)) .nil .nil))) (.node (some (.str 30)) (.node none (.node none (.node (some (.sta 1319)) .nil .nil) .nil) (.node (some (.sta 984)) .nil .nil)) .nil))) (.node none (.node (some (.int (.k 2))) (.node none (.node none (.node (some (.sta 28)) .nil .nil) (.node (some (.sta 185)) .nil .nil)) (.node none (.node none (.node (some (.int (.k 7))) .nil .nil) .nil) (.node (some (.sta 1012)) .nil .nil))) (.node none (.node none .nil (.node (some (.sta 977)) .nil .nil)) .nil)) (.node none (.node none (.node none .nil (.node (some (.sta 199)) .nil .nil)) (.node (some (.bi 0)) (.node (some (.sta 420)) .nil .nil) .nil)) (.node (some (.str 39)) .nil .nil))))) (.node none (.node none (.node none (.node none (.node none (.node none (.node none (.node (some (.sta 853)) .nil .nil) .nil) .nil) (.node none (.node none (.node (some (.sta 107)) .nil .nil) .nil) (.node (some (.sta 1005)) .nil .nil))) (.node (some (.str 26)) .nil .nil)) (.node (some (.ty 1)) (.node none (.node none .nil (.node (some (.int (.k 2))) .nil .nil)) (.node none (.node none (.node (some (.sta 1291)) .nil .nil) .nil) (.node (some (.sta 970)) .nil .nil))) (.node (some (.str 28)) .nil (.node none (.node (some (.sta 252)) .nil .nil) (.node (some (.sta 1132)) .nil .nil))))) (.node none (.node none (.node none (.node none .nil (.node (some (.sta 146)) .nil .nil)) (.node none (.node none (.node (some (.str 40)) .nil .nil) .nil) (.node (some (.sta 192)) .nil .nil))) (.node (some (.str 41)) (.node none .nil (.node (some (.sta 956)) .nil .nil)) (.node (some (.bi 1)) (.node (some (.sta 864)) .nil .nil) .nil))) (.node none (.node none (.node none .nil (.node (some (.int (.k 8))) .nil .nil)) (.node none .nil (.node (some (.sta 1019)) .nil .nil))) (.node (some (.str 36)) (.node (some (.sta 49)) (.node none (.node (some (.sta 1324)) .nil .nil) .nil) .nil) (.node (some (.sta 532)) .nil .nil))))) (.node (some (.sta 42)) (.node none (.node none (.node none (.node none (.node (some (.ty 0)) .nil .nil) (.node (some (.sta 164)) .nil .nil)) (.node (some (.ty 3)) (.node none (.node (some (.int (.k 4))) .nil .nil) .nil) (.node (some (.sta 963)) .nil .nil))) (.node none (.node none .nil (.node (some (.sta 949)) .nil .nil)) (.node none .nil (.node (some (.sta 907)) .nil .nil)))) (.node none (.node none .nil (.node none (.node none (.node (some (.sta 1336)) .nil .nil) .nil) .nil)) (.node (some (.str 32)) .nil (.node (some (.sta 574)) (.node (some (.sta 832)) .nil .nil) .nil)))) (.node none (.node (some (.int (.k 1))) (.node none (.node none (.node (some (.sta 56)) .nil .nil) .nil) (.node none (.node none (.node (some (.sta 1277)) .nil .nil) .nil) .nil)) (.node (some (.sta 171)) (.node none (.node none (.node (some (.sta 1312)) .nil .nil) .nil) .nil) (.node none (.node (some (.sta 343)) .nil .nil) (.node (some (.ty 2)) .nil .nil)))) (.node none (.node none .nil (.node none .nil (.node (some (.sta 1040)) .nil .nil))) (.node (some (.str 37)) (.node none .nil (.node (some (.int (.k 4))) .nil .nil)) (.node none (.node (some (.int (.k 65535))) .nil .nil) .nil)))))))
noncomputable def fb_1284 : X := (.cons (.ift (.cmp .Gt (.sub (.loc 301) (.k (.int (.k 0)))) (.k (.int (.k 0)))) (.cons (.asg (.loc 302) (.bin .Mod (.sub (.loc 301) (.k (.int (.k 0)))) (.loc 303))) (.cons (.asg (.sub (.loc 301) (.k (.int (.k 0)))) (.bin .FloorDiv (.sub (.loc 301) (.k (.int (.k 0)))) (.loc 303))) (.cons (.ret (.loc 302)) .nil))) .nil) (.cons (.asg (.sub (.loc 301) (.k (.int (.k 1)))) (.bin .Mod (.bin .Add (.bin .Mult (.sub (.loc 301) (.k (.int (.k 1)))) (.k (.int (.k 39373)))) (.k (.int (.k 7)))) (.k (.int (.k 2147483647))))) (.cons (.ret (.bin .Mod (.bin .FloorDiv (.bin .Mod (.bin .Mult (.sub (.loc 301) (.k (.int (.k 1)))) (.sub (.loc 301) (.k (.int (.k 1))))) (.k (.int (.k 2147483629)))) (.k (.int (.k 32)))) (.loc 303))) .nil)))
noncomputable def fi_1284 : FI := ⟨[301, 303], [], fb_1284⟩
noncomputable def fb_1291 : X := (.cons (.ret (.sub (.loc 304) (.cal (.glb 295) (.cons (.loc 301) (.cons (.cal (.glb 19) (.cons (.loc 304) .nil)) .nil))))) .nil)
noncomputable def fi_1291 : FI := ⟨[301, 304], [], fb_1291⟩
noncomputable def fb_1343 : X := (.cons (.asg (.loc 301) (.cal (.glb 294) (.cons (.loc 305) .nil))) (.cons (.asg (.loc 2) (.cal (.glb 296) (.cons (.loc 301) (.cons (.lst (.cons (.k (.int (.k 128))) (.cons (.bin .Pow (.k (.int (.k 2))) (.k (.int (.k 32)))) .nil))) .nil)))) (.cons (.ift (.or_ (.cons (.not_ (.cal (.glb 297) (.cons (.loc 2) (.cons (.k (.str 32)) (.cons (.k (.int (.k 8))) (.cons (.lst (.cons (.k (.int (.k 16))) (.cons (.neg (.k (.int (.k 1)))) (.cons (.k (.int (.k 4))) (.cons (.k (.int (.k 21))) .nil))))) .nil)))))) (.cons (.not_ (.cal (.glb 298) (.cons (.loc 2) .nil))) .nil))) (.cons (.ret (.k (.bool false))) .nil) .nil) (.cons (.for_ (.loc 47) (.lst (.cons (.k (.str 37)) (.cons (.k (.str 39)) (.cons (.k (.str 35)) .nil)))) (.cons (.ift (.not_ (.cal (.glb 297) (.cons (.loc 2) (.cons (.loc 47) (.cons (.k (.int (.k 3))) (.cons (.lst (.cons (.k (.int (.k 16))) (.cons (.neg (.k (.int (.k 5)))) (.cons (.k (.int (.k 4))) (.cons (.k (.int (.k 21))) .nil))))) .nil)))))) (.cons (.ret (.k (.bool false))) .nil) .nil) .nil)) (.cons (.asg (.loc 306) (.lst (.cons (.k (.str 32)) (.cons (.k (.str 36)) (.cons (.k (.str 35)) (.cons (.k (.str 39)) (.cons (.k (.str 37)) (.cons (.k (.str 40)) (.cons (.k (.str 41)) .nil))))))))) (.cons (.for_ (.loc 47) (.bin .Add (.loc 306) (.lst (.cons (.k (.str 30)) .nil))) (.cons (.asg (.loc 18) (.cal (.glb 295) (.cons (.loc 301) (.cons (.k (.int (.k 9))) .nil)))) (.cons (.asg (.loc 12) (.cal (.glb 296) (.cons (.loc 301) (.cons (.lst (.cons (.k (.int (.k 16))) (.cons (.k (.int (.k 16))) (.cons (.k (.int (.k 16))) (.cons (.k (.int (.k 24))) (.cons (.k (.int (.k 17))) (.cons (.k (.int (.k 18))) (.cons (.k (.int (.k 20))) (.cons (.k (.int (.k 4))) (.cons (.k (.int (.k 1))) (.cons (.k (.int (.k 0))) .nil))))))))))) .nil)))) (.cons (.asg (.loc 264) (.cal (.glb 296) (.cons (.loc 301) (.cons (.lst (.cons (.neg (.k (.int (.k 1)))) (.cons (.neg (.k (.int (.k 1)))) (.cons (.neg (.k (.int (.k 3)))) (.cons (.neg (.k (.int (.k 4)))) (.cons (.neg (.k (.int (.k 6)))) (.cons (.k (.int (.k 0))) (.cons (.k (.int (.k 16))) (.cons (.k (.int (.k 40))) .nil))))))))) .nil)))) (.cons (.asg (.loc 267) (.lst (.cons (.loc 12) (.cons (.loc 264) (.cons (.cal (.glb 296) (.cons (.loc 301) (.cons (.lst (.cons (.k (.int (.k 0))) (.cons (.k (.int (.k 1))) (.cons (.loc 18) (.cons (.bin .Add (.loc 18) (.k (.int (.k 1)))) (.cons (.bin .Add (.loc 18) (.k (.int (.k 2)))) (.cons (.neg (.k (.int (.k 1)))) .nil))))))) .nil))) (.cons (.cal (.glb 295) (.cons (.loc 301) (.cons (.k (.int (.k 60))) .nil))) .nil)))))) (.cons (.ift (.not_ (.cal (.glb 297) (.cons (.loc 2) (.cons (.loc 47) (.cons (.loc 18) (.cons (.loc 267) .nil)))))) (.cons (.ret (.k (.bool false))) .nil) .nil) .nil)))))) (.cons (.ret (.k (.bool true))) .nil)))))))
noncomputable def fi_1343 : FI := ⟨[305], [], fb_1343⟩
noncomputable def lawB : X := fb_1343
noncomputable def fb_1277 : X := (.cons (.asg (.loc 307) (.ife (.cmp .NotEq (.loc 305) (.lst .nil)) (.sub (.loc 305) (.k (.int (.k 0)))) (.k (.int (.k 0))))) (.cons (.asg (.loc 308) (.cal (.glb 116) (.cons (.loc 307) (.cons (.bin .Sub (.neg (.k (.int (.k 1)))) (.loc 307)) .nil)))) (.cons (.ret (.lst (.cons (.bin .Mult (.loc 308) (.cal (.glb 130) (.cons (.cmp .GtE (.loc 308) (.bin .Pow (.k (.int (.k 10))) (.k (.int (.k 18))))) .nil))) (.cons (.bin .Mod (.bin .Mult (.bin .Add (.bin .Mod (.loc 308) (.k (.int (.k 2147483629)))) (.k (.int (.k 17)))) (.k (.int (.k 48271)))) (.k (.int (.k 2147483647)))) .nil)))) .nil)))
noncomputable def fi_1277 : FI := ⟨[305], [], fb_1277⟩
noncomputable def funT : Tr FI := (.node none (.node none (.node none (.node none (.node none (.node none (.node none (.node none .nil (.node none (.node none (.node (some fi_1151) .nil .nil) .nil) .nil)) (.node none (.node none .nil (.node none (.node (some fi_1343) .nil .nil) .nil)) .nil)) (.node none .nil (.node none (.node none (.node (some fi_607) .nil .nil) .nil) (.node none .nil (.node (some fi_991) .nil .nil))))) (.node none (.node none (.node (some fi_143) .nil .nil) .nil) .nil)) (.node none (.node none (.node none .nil (.node (some fi_199) .nil .nil)) (.node none (.node none (.node none .nil (.node none (.node (some fi_1319) .nil .nil) .nil)) .nil) .nil)) (.node none (.node none (.node none .nil (.node none (.node (some fi_663) .nil .nil) .nil)) (.node none (.node none (.node (some fi_599) .nil .nil) .nil) (.node none (.node (some fi_727) .nil .nil) .nil))) .nil))) (.node none (.node none (.node (some fi_35) (.node none (.node none (.node none (.node (some fi_515) .nil .nil) .nil) .nil) (.node none .nil (.node none .nil (.node (some fi_963) .nil .nil)))) (.node none (.node none (.node (some fi_291) .nil (.node (some fi_803) .nil .nil)) .nil) .nil)) (.node none (.node none (.node none .nil (.node (some fi_403) .nil .nil)) .nil) (.node none (.node none (.node none .nil (.node none (.node (some fi_1331) .nil .nil) .nil)) .nil) .nil))) (.node none (.node none (.node none (.node none (.node none .nil (.node none (.node (some fi_1291) .nil .nil) .nil)) (.node none .nil (.node (some fi_907) .nil .nil))) (.node none .nil (.node (some fi_459) .nil .nil))) .nil) (.node none (.node none (.node none .nil (.node none (.node none (.node (some fi_1179) .nil .nil) .nil) .nil)) .nil) (.node none (.node none (.node none (.node (some fi_571) .nil .nil) .nil) (.node none (.node (some fi_699) .nil .nil) .nil)) (.node none .nil (.node none .nil (.node (some fi_1019) .nil .nil)))))))) (.node none (.node none (.node none (.node none (.node none (.node (some fi_129) .nil .nil) .nil) (.node none (.node none .nil (.node (some fi_417) .nil .nil)) .nil)) (.node none (.node none (.node none (.node none (.node (some fi_529) .nil .nil) .nil) .nil) (.node none .nil (.node none .nil (.node (some fi_977) .nil .nil)))) (.node none (.node none (.node (some fi_305) .nil .nil) .nil) .nil))) (.node none (.node none (.node none (.node none (.node none (.node none (.node (some fi_1033) .nil .nil) .nil) .nil) (.node none (.node (some fi_649) .nil .nil) .nil)) (.node none .nil (.node none (.node (some fi_713) .nil .nil) .nil))) (.node none .nil (.node none (.node (some fi_361) .nil .nil) .nil))) (.node none (.node none (.node none (.node none .nil (.node none (.node (some fi_1305) .nil .nil) .nil)) (.node none .nil (.node (some fi_921) .nil .nil))) (.node none .nil (.node (some fi_473) .nil .nil))) (.node none (.node (some fi_185) .nil .nil) .nil)))) (.node none (.node none (.node none (.node none (.node none .nil (.node (some fi_389) .nil .nil)) .nil) (.node none (.node none .nil (.node none (.node (some fi_677) .nil .nil) .nil)) (.node none .nil (.node none (.node (some fi_741) .nil .nil) .nil)))) (.node none (.node none (.node none (.node (some fi_277) .nil (.node (some fi_789) .nil .nil)) .nil) (.node (some fi_213) .nil .nil)) (.node none (.node none .nil (.node none .nil (.node (some fi_949) .nil .nil))) (.node none (.node none .nil (.node (some fi_885) .nil .nil)) (.node (some fi_501) .nil .nil))))) (.node none (.node none (.node none (.node none .nil (.node none (.node none (.node (some fi_1165) .nil .nil) .nil) .nil)) .nil) (.node none (.node none (.node none (.node (some fi_557) .nil .nil) .nil) .nil) (.node none (.node none (.node (some fi_621) .nil .nil) .nil) (.node none .nil (.node (some fi_1005) .nil .nil))))) (.node none .nil (.node none .nil (.node none (.node none .nil (.node (some fi_893) .nil .nil)) (.node none (.node none (.node (some fi_1277) .nil .nil) .nil) .nil)))))))) (.node none (.node none (.node none (.node none (.node none (.node none .nil (.node (some fi_192) .nil .nil)) (.node none (.node none (.node none .nil (.node none (.node (some fi_1312) .nil .nil) .nil)) (.node none .nil (.node (some fi_928) .nil .nil))) (.node none (.node none .nil (.node (some fi_864) .nil .nil)) .nil))) (.node none (.node none (.node none (.node none (.node none (.node (some fi_1040) .nil .nil) .nil) .nil) (.node none (.node (some fi_656) .nil .nil) .nil)) (.node none (.node none (.node (some fi_592) .nil .nil) .nil) (.node none (.node (some fi_720) .nil .nil) .nil))) .nil)) (.node none (.node none (.node none (.node (some fi_136) .nil .nil) .nil) .nil) (.node (some fi_56) .nil (.node none (.node none (.node (some fi_312) .nil (.node none (.node (some fi_1336) .nil .nil) .nil)) .nil) .nil)))) (.node none (.node none (.node none (.node none (.node none (.node none .nil (.node none (.node (some fi_1284) .nil .nil) .nil)) .nil) .nil) .nil) (.node none (.node none (.node none .nil (.node none (.node none (.node (some fi_1172) .nil .nil) .nil) .nil)) .nil) (.node none (.node none (.node none (.node (some fi_564) .nil .nil) .nil) .nil) (.node none (.node none (.node (some fi_628) .nil .nil) .nil) (.node none .nil (.node (some fi_1012) .nil .nil)))))) (.node (some fi_28) (.node none .nil (.node none (.node none (.node none .nil (.node none (.node (some fi_1324) .nil .nil) .nil)) (.node none (.node (some fi_684) .nil .nil) .nil)) (.node none .nil (.node none (.node (some fi_748) .nil .nil) .nil)))) (.node none (.node none (.node none (.node none .nil (.node (some fi_796) .nil .nil)) .nil) .nil) (.node none (.node none .nil (.node none .nil (.node (some fi_956) .nil .nil))) (.node none .nil (.node (some fi_508) .nil .nil))))))) (.node none (.node none (.node none (.node none (.node none (.node none (.node none (.node none (.node (some fi_1026) .nil .nil) .nil) .nil) (.node none (.node (some fi_642) .nil .nil) .nil)) .nil) .nil) (.node none (.node none (.node none (.node none .nil (.node none (.node (some fi_1298) .nil .nil) .nil)) (.node none .nil (.node (some fi_914) .nil .nil))) (.node none (.node none .nil (.node (some fi_850) .nil .nil)) (.node (some fi_466) .nil .nil))) (.node none .nil (.node (some fi_242) .nil .nil)))) (.node none (.node (some fi_42) (.node none (.node none (.node none (.node (some fi_522) .nil .nil) .nil) .nil) (.node none .nil (.node none .nil (.node (some fi_970) .nil .nil)))) (.node none (.node none (.node (some fi_298) .nil (.node (some fi_810) .nil .nil)) .nil) .nil)) (.node none (.node none (.node none .nil (.node (some fi_410) .nil .nil)) .nil) (.node (some fi_122) .nil (.node none .nil (.node none (.node (some fi_762) .nil .nil) .nil)))))) (.node none (.node none (.node none (.node none (.node none .nil (.node none (.node none (.node (some fi_1158) .nil .nil) .nil) .nil)) (.node none (.node (some fi_326) .nil .nil) .nil)) (.node none (.node none (.node none (.node (some fi_550) .nil .nil) .nil) .nil) (.node none (.node none (.node (some fi_614) .nil .nil) .nil) (.node none .nil (.node (some fi_998) .nil .nil))))) (.node none .nil (.node none (.node none .nil (.node (some fi_438) .nil .nil)) .nil))) (.node none (.node none (.node none (.node none (.node (some fi_270) .nil (.node (some fi_782) .nil .nil)) .nil) .nil) (.node none (.node none .nil (.node none .nil (.node (some fi_942) .nil .nil))) (.node none (.node none .nil (.node (some fi_878) .nil .nil)) (.node (some fi_494) .nil .nil)))) (.node none (.node none (.node none (.node none (.node none (.node (some fi_1054) .nil .nil) .nil) .nil) .nil) .nil) (.node none .nil (.node none (.node (some fi_382) .nil .nil) .nil))))))))
noncomputable def tabT : Tr (List ((Nat × Nat) × Nat)) := (.node none (.node none (.node none .nil (.node none .nil (.node none (.node none .nil (.node none (.node (some tt_171) .nil .nil) .nil)) .nil))) .nil) (.node none .nil (.node none (.node none (.node none .nil (.node none .nil (.node none (.node (some tt_178) .nil .nil) .nil))) .nil) .nil)))
noncomputable def tab : Tab := ⟨funT, clsT, globT, 140, 163, 161, tabT⟩
end
end Mine
set_option maxRecDepth 100000
set_option genInjectivity false
set_option genSizeOf false
namespace Mine
open PySem PySem.W PySem.Calls PyProof.Rows
section
noncomputable abbrev pg : Program := PySem.Challenge.pw_xw0354_01
noncomputable def nmTab : List Str := nmsA ++ nmsB
noncomputable def nmAt (l : List Str) : Nat → Str := @List.rec Str (fun _ => Nat → Str) (fun n => ⟨#[2000000 + n]⟩) (fun x _ ih n => @Nat.casesOn (fun _ => Str) n x ih) l
noncomputable def nm (n : Nat) : Str := nmAt nmTab n
noncomputable abbrev Pi := Nat → Pt
noncomputable def XI.at (π : Pi) : XI → Int
 | .k i => i
 | .v d f => f (π d)
noncomputable def XB.at (π : Pi) : XB → List UInt8
 | .k l => l
 | .v d f => f (π d)
noncomputable def Tst.at (π : Pi) : Tst → Bool
 | .k b => b
 | .v d f => f (π d)
noncomputable def biN (k : Nat) : String := match k with
 | 0 => "min"
 | 1 => "max"
 | _ => "len"
noncomputable def tyN (k : Nat) : String := match k with
 | 0 => "int"
 | 1 => "bytes"
 | 2 => "bytearray"
 | _ => "range"
noncomputable abbrev Ow := List Addr
noncomputable def RelV (π : Pi) (g : Ow) : XV → Value → Prop
 | .none, v => v = .none
 | .bool b, v => v = .bool b
 | .int x, v => ∃ t, 0 ≤ t ∧ v = .int (x.at π) t
 | .str k, v => ∃ t, 0 ≤ t ∧ v = .str (nm k) t
 | .bytes b, v => ∃ t, 0 ≤ t ∧ v = .bytes ⟨b.at π⟩ t
 | .own i, v => ∃ a, g[i]? = some a ∧ v = .ref a
 | .sta a, v => v = .ref a
 | .bi k, v => v = .builtin (biN k)
 | .ty k, v => v = .type (tyN k)
noncomputable def Grow (g g' : Ow) : Prop := ∃ l, g' = g ++ l
theorem Grow.refl (g : Ow) : Grow g g := ⟨[], by simp⟩
theorem Grow.trans {g g' g'' : Ow} (a : Grow g g') (b : Grow g' g'') : Grow g g'' := by
 obtain ⟨l, rfl⟩ := a; obtain ⟨m, rfl⟩ := b; exact ⟨l ++ m, by simp⟩
theorem Grow.get {g g' : Ow} (a : Grow g g') {i : Nat} {x : Addr} (h : g[i]? = some x) : g'[i]? = some x := by
 obtain ⟨l, rfl⟩ := a
 rw [List.getElem?_append_left (by rw [List.getElem?_eq_some_iff] at h; exact h.1)]; exact h
theorem Grow.snoc (g : Ow) (a : Addr) : Grow g (g ++ [a]) := ⟨[a], rfl⟩
theorem RelV.grow {π : Pi} {g g' : Ow} (G : Grow g g') : ∀ {x : XV} {v : Value}, RelV π g x v → RelV π g' x v
 | .none, _, h => h
 | .bool _, _, h => h
 | .int _, _, h => h
 | .str _, _, h => h
 | .bytes _, _, h => h
 | .own _, _, h => by obtain ⟨a, h1, h2⟩ := h; exact ⟨a, G.get h1, h2⟩
 | .sta _, _, h => h
 | .bi _, _, h => h
 | .ty _, _, h => h
inductive All2 {α β : Type} (R : α → β → Prop) : List α → List β → Prop
 | nil : All2 R [] []
 | cons {x v xs vs} : R x v → All2 R xs vs → All2 R (x :: xs) (v :: vs)
section
variable {α β : Type} {R R' : α → β → Prop}
theorem All2.mono (h : ∀ x v, R x v → R' x v) {xs vs} (a : All2 R xs vs) : All2 R' xs vs := by
 induction a with
 | nil => exact .nil
 | cons p _ ih => exact .cons (h _ _ p) ih
theorem All2.uncons {x : α} {xs : List α} {vs : List β} (a : All2 R (x :: xs) vs) : ∃ v ws, vs = v :: ws ∧ R x v ∧ All2 R xs ws := by cases a with | cons h1 h2 => exact ⟨_, _, rfl, h1, h2⟩
theorem All2.unnil {vs : List β} (a : All2 R ([] : List α) vs) : vs = [] := by cases a; rfl
theorem All2.length {xs vs} (a : All2 R xs vs) : xs.length = vs.length := by
 induction a with
 | nil => rfl
 | cons _ _ ih => simp [ih]
theorem All2.append {xs vs ys ws} (a : All2 R xs vs) (b : All2 R ys ws) : All2 R (xs ++ ys) (vs ++ ws) := by
 induction a with
 | nil => exact b
 | cons p _ ih => exact .cons p ih
theorem All2.get {xs vs} (a : All2 R xs vs) : ∀ {i : Nat} {x : α}, xs[i]? = some x → ∃ v, vs[i]? = some v ∧ R x v := by
 induction a with
 | nil => intro i x h; simp at h
 | cons p _ ih =>
  intro i x h
  cases i with
  | zero => simp at h; subst h; exact ⟨_, rfl, p⟩
  | succ i => simp at h; obtain ⟨v, h1, h2⟩ := ih h; exact ⟨v, by simpa using h1, h2⟩
theorem All2.mem {xs vs} (a : All2 R xs vs) : ∀ v ∈ vs, ∃ x ∈ xs, R x v := by
 induction a with
 | nil => intro v h; simp at h
 | cons p _ ih =>
  intro v h
  rcases List.mem_cons.mp h with rfl | h
  ·exact ⟨_, List.mem_cons_self, p⟩
  ·obtain ⟨x, h1, h2⟩ := ih v h; exact ⟨x, List.mem_cons_of_mem _ h1, h2⟩
end
noncomputable abbrev RelL (π : Pi) (g : Ow) : List XV → List Value → Prop := All2 (RelV π g)
theorem RelL.grow {π : Pi} {g g' : Ow} (G : Grow g g') {xs vs} (h : RelL π g xs vs) : RelL π g' xs vs := h.mono fun _ _ => RelV.grow G
noncomputable def RelF (π : Pi) (g : Ow) (p : Nat × XV) (e : DictEntry) : Prop := (∃ t, e.key = .str (nm p.1) t) ∧ RelV π g p.2 e.val
noncomputable def RelI (π : Pi) (g : Ow) (p : Int × XV) (e : Int × Value) : Prop := e.1 = p.1 ∧ RelV π g p.2 e.2
noncomputable def RelS (π : Pi) (g : Ow) (p : Nat × XV) (e : Str × Value) : Prop := e.1 = nm p.1 ∧ RelV π g p.2 e.2
noncomputable abbrev tupOf (its : Array Value) (n : Nat) : Obj := { cls := .type "tuple", data := .seq its n }
noncomputable abbrev barrO : Obj := { cls := .type "bytearray", data := .bytearray #[] }
noncomputable abbrev rngO (a b : Value) (t : Tok) : Obj := { cls := .type "range", data := .fields #[a, b, .int 1 t] }
noncomputable def RelO (w : World) (π : Pi) (g : Ow) : XO → Obj → Prop
 | .inst C d, ob => ∃ a, g[d]? = some a ∧ ob = instObj C a
 | .flds fs, ob => ∃ es n, ob = dictOf es n ∧ All2 (RelF π g) fs es
 | .list xs, ob => ∃ vs n, ob = listOf vs n ∧ RelL π g xs vs.toList
 | .tup xs, ob => ∃ vs n, ob = tupOf vs n ∧ RelL π g xs vs.toList
 | .idict es, ob => ∃ kvs, ob.IsDictOf (intKind pg w) kvs ∧ All2 (RelI π g) es kvs
 | .sdict es, ob => ∃ kvs, ob.IsDictOf (strKind pg w) kvs ∧ All2 (RelS π g) es kvs
 | .barr, ob => ob = barrO
 | .rng a b, ob => ∃ t t' u, ob = rngO (.int (a.at π) t) (.int (b.at π) t') u
theorem RelO.grow {w : World} {π : Pi} {g g' : Ow} (G : Grow g g') : ∀ {x : XO} {ob : Obj}, RelO w π g x ob → RelO w π g' x ob
 | .inst _ _, _, h => by obtain ⟨a, h1, h2⟩ := h; exact ⟨a, G.get h1, h2⟩
 | .flds _, _, h => by obtain ⟨es, n, h1, h2⟩ := h; exact ⟨es, n, h1, h2.mono fun _ _ z => ⟨z.1, z.2.grow G⟩⟩
 | .list _, _, h => by obtain ⟨es, n, h1, h2⟩ := h; exact ⟨es, n, h1, RelL.grow G h2⟩
 | .tup _, _, h => by obtain ⟨es, n, h1, h2⟩ := h; exact ⟨es, n, h1, RelL.grow G h2⟩
 | .idict _, _, h => by obtain ⟨es, h1, h2⟩ := h; exact ⟨es, h1, h2.mono fun _ _ z => ⟨z.1, z.2.grow G⟩⟩
 | .sdict _, _, h => by obtain ⟨es, h1, h2⟩ := h; exact ⟨es, h1, h2.mono fun _ _ z => ⟨z.1, z.2.grow G⟩⟩
 | .barr, _, h => h
 | .rng _ _, _, h => h
structure Cx where
 w : World
 π : Pi
 h₀ : Heap
 gens : Array GenState
 drawn : Drawn
 os : OsState
 L : Addr
 H : List (Addr × Obj)
noncomputable def RelM (π : Pi) (g : Ow) (loc : List (Nat × XV)) (m : Str → Option Value) : Prop := ∀ y x, look y loc = some x → ∃ v, m (nm y) = some v ∧ RelV π g x v
theorem RelM.grow {π : Pi} {g g' : Ow} (G : Grow g g') {loc m} (h : RelM π g loc m) : RelM π g' loc m := fun y x e => let ⟨v, a, b⟩ := h y x e; ⟨v, a, b.grow G⟩
structure Inv (c : Cx) (g : Ow) (m : Str → Option Value) (news : List (Addr × Obj)) (σ : XSt) (s : Shared) : Prop where
 fr : Fr c.h₀ c.L s.heap m
 nw : News c.h₀ c.L s.heap news
 held : ∀ p ∈ c.H, p ∈ news
 uniq : (news.map (·.1)).Nodup
 nx : σ.nx = g.length
 cap : σ.nx ≤ 2000
 nodup : g.Nodup
 apart : ∀ a ∈ g, ∀ p ∈ c.H, p.1 ≠ a
 mine : ∀ a ∈ g, ∃ o, (a, o) ∈ news
 own : ∀ i o, σ.hp.get i = some o → ∃ a ob, g[i]? = some a ∧ (a, ob) ∈ news ∧ RelO c.w c.π g o ob
 loc : RelM c.π g σ.loc m
 cs : ∀ d, d < 4 → c.π d ∈ nthL σ.cs d
 toks : 0 ≤ s.toks
 gens : s.gens = c.gens
 drawn : s.drawn = c.drawn
 os : s.os = c.os
noncomputable def Is (c : Cx) (g : Ow) (σ : XSt) (s : Shared) : Prop := ∃ m news, Inv c g m news σ s
noncomputable def Po {α β : Type} (c : Cx) (g : Ow) (R : Ow → β → α → Prop) (k : β → XSt → Bool) (a : α) (s : Shared) : Prop :=
 ∃ b σ g', k b σ = true ∧ Grow g g' ∧ R g' b a ∧ Is c g' σ s
theorem Po.elim {α β : Type} {c : Cx} {g : Ow} {R : Ow → β → α → Prop} {k : β → XSt → Bool} {a : α} {s : Shared} {P : Prop} (h : Po c g R k a s) (f : ∀ b σ g', k b σ = true → Grow g g' → R g' b a → Is c g' σ s → P) : P := by
 obtain ⟨b, σ, g', h1, h2, h3, h4⟩ := h; exact f b σ g' h1 h2 h3 h4
theorem Po.go {α β : Type} {c : Cx} {g : Ow} {R : Ow → β → α → Prop} {k : β → XSt → Bool} {M : Model} {A : Around} {m : Sem α} {E : Value → Shared → Prop} {Q : α → Shared → Prop} {s : Shared} (h : wpAny M A m (Po c g R k) E s) (f : ∀ a s' b σ g', k b σ = true → Grow g g' → R g' b a → Is c g' σ s' → Q a s') : wpAny M A m Q E s :=
 wpAny_mono h (fun a s' q => q.elim (f a s')) fun _ _ e => e
theorem Po.up {α β : Type} {c : Cx} {g g' : Ow} {R : Ow → β → α → Prop} {k : β → XSt → Bool} {a : α} {s : Shared} (G : Grow g g') (h : Po c g' R k a s) : Po c g R k a s := by
 obtain ⟨b, σ, g'', h1, h2, h3⟩ := h; exact ⟨b, σ, g'', h1, G.trans h2, h3⟩
theorem Po.now {α β : Type} {c : Cx} {g : Ow} {R : Ow → β → α → Prop} {k : β → XSt → Bool} {a : α} {s : Shared} {b : β} {σ : XSt} (h : k b σ = true) (r : R g b a) (I : Is c g σ s) : Po c g R k a s :=
 ⟨b, σ, g, h, Grow.refl g, r, I⟩
noncomputable abbrev RBl (_ : Ow) (b : Bool) (a : Bool) : Prop := b = a
noncomputable abbrev RU (_ : Ow) (_ : Unit) (_ : Unit) : Prop := True
theorem Inv.tok {c : Cx} {g m news σ s} (I : Inv c g m news σ s) (n : Nat) (h : 0 ≤ n) : Inv c g m news σ { s with toks := n } :=
 ⟨I.fr, I.nw, I.held, I.uniq, I.nx, I.cap, I.nodup, I.apart, I.mine, I.own, I.loc, I.cs, h, I.gens, I.drawn, I.os⟩
theorem Is.tok {c : Cx} {g σ s} (I : Is c g σ s) (n : Nat) (h : 0 ≤ n) : Is c g σ { s with toks := n } := by
 obtain ⟨m, news, I⟩ := I; exact ⟨m, news, I.tok n h⟩
theorem Is.el {c : Cx} {g σ s} {P : Prop} (I : Is c g σ s) (f : ∀ m news, Inv c g m news σ s → P) : P := by
 obtain ⟨m, news, I⟩ := I; exact f m news I
theorem Is.toks {c : Cx} {g σ s} (I : Is c g σ s) : 0 ≤ s.toks := by
 obtain ⟨m, news, I⟩ := I; exact I.toks
theorem br_true {b : Bool} {x : Bool} (h : br b x false = true) : b = true ∧ x = true := by cases b <;> simp_all [br]
theorem br_el {b x : Bool} {P : Prop} (h : br b x false = true) (f : b = true → x = true → P) : P := f (br_true h).1 (br_true h).2
theorem br_false {b : Bool} {x : Bool} (h : br b false x = true) : b = false ∧ x = true := by cases b <;> simp_all [br]
theorem br_and {b x y : Bool} (h : br b x y = true) : (b = true ∧ x = true) ∨ (b = false ∧ y = true) := by cases b <;> simp_all [br]
theorem an_true {a b : Bool} (h : an a b = true) : a = true ∧ b = true := by cases a <;> simp_all [an]
theorem an_el {a b : Bool} {P : Prop} (h : an a b = true) (f : a = true → b = true → P) : P := f (an_true h).1 (an_true h).2
@[simp] theorem br_t {α : Type} (x y : α) : br true x y = x := rfl
@[simp] theorem br_f {α : Type} (x y : α) : br false x y = y := rfl
theorem Tr.get_node {α : Type} (v : Option α) (l r : Tr α) (i : Nat) : (Tr.node v l r).get i = if i = 0 then v else if i % 2 = 1 then l.get (i / 2) else r.get (i / 2 - 1) := by
 show br (Nat.beq i 0) v (br (Nat.beq (i % 2) 1) (l.get (i / 2)) (r.get (i / 2 - 1))) = _
 rw [BT.beq_eq, BT.beq_eq]
 by_cases h : i = 0
 ·simp [h]
 ·by_cases q : i % 2 = 1 <;> simp [h, q]
theorem Tr.get_nil {α : Type} (i : Nat) : (Tr.nil : Tr α).get i = none := rfl
theorem Tr.set_zero {α : Type} (t : Tr α) (i : Nat) (x : α) : Tr.set 0 t i x = t := rfl
theorem Tr.set_node {α : Type} (n : Nat) (v : Option α) (l r : Tr α) (i : Nat) (x : α) : Tr.set (n + 1) (Tr.node v l r) i x = if i = 0 then .node (some x) l r else if i % 2 = 1 then .node v (Tr.set n l (i / 2) x) r else .node v l (Tr.set n r (i / 2 - 1) x) := by
 show br (Nat.beq i 0) (Tr.node (some x) l r) (br (Nat.beq (i % 2) 1) (.node v (Tr.set n l (i / 2) x) r) (.node v l (Tr.set n r (i / 2 - 1) x))) = _
 rw [BT.beq_eq, BT.beq_eq]
 by_cases h : i = 0
 ·simp [h]
 ·by_cases q : i % 2 = 1 <;> simp [h, q]
theorem same_half {i a : Nat} (m : i % 2 = a % 2) (e : i / 2 = a / 2) : i = a := by
 rw [← Nat.div_add_mod i 2, ← Nat.div_add_mod a 2, m, e]
theorem ev0 {i : Nat} (h : ¬ i % 2 = 1) : i % 2 = 0 := (Nat.mod_two_eq_zero_or_one i).resolve_right h
theorem pos_half {i : Nat} (h0 : i ≠ 0) (h1 : ¬ i % 2 = 1) : 0 < i / 2 := by
 rcases i with _ | _ | n
 ·exact absurd rfl h0
 ·exact absurd rfl h1
 ·exact Nat.div_pos (Nat.le_add_left 2 n) (by decide)
theorem even_back {i : Nat} (h0 : i ≠ 0) (h1 : ¬ i % 2 = 1) : 2 * (i / 2 - 1) + 2 = i := by
 have p := pos_half h0 h1
 have e := Nat.div_add_mod i 2
 rw [ev0 h1] at e
 cases q : i / 2 with
 | zero => rw [q] at p; exact absurd p (Nat.lt_irrefl 0)
 | succ k => rw [q] at e; exact e
theorem odd_back {i : Nat} (h1 : i % 2 = 1) : 2 * (i / 2) + 1 = i := by
 have e := Nat.div_add_mod i 2
 rw [h1] at e; exact e
theorem odd_half {i a : Nat} (h1 : i % 2 = 1) (h2 : a % 2 = 1) (e : i / 2 = a / 2) : i = a := same_half (h1.trans h2.symm) e
theorem even_half {i a : Nat} (h0 : i ≠ 0) (h3 : a ≠ 0) (h1 : ¬ i % 2 = 1) (h2 : ¬ a % 2 = 1) (e : i / 2 - 1 = a / 2 - 1) : i = a := by
 rw [← even_back h0 h1, ← even_back h3 h2, e]
theorem half_lt {a m : Nat} (h : a + 1 < 2 * m) (h0 : a ≠ 0) : a / 2 + 1 < m ∨ ¬ a % 2 = 1 := by omega
theorem half_lt' {a m : Nat} (h : a + 1 < 2 * m) (h0 : a ≠ 0) (h1 : ¬ a % 2 = 1) : a / 2 - 1 + 1 < m := by omega
theorem if_same {α : Type} {p q : Prop} [Decidable p] [Decidable q] (h : p ↔ q) (x y : α) : (if p then x else y) = if q then x else y := by
 by_cases hq : q
 ·rw [if_pos hq, if_pos (h.mpr hq)]
 ·rw [if_neg hq, if_neg fun z => hq (h.mp z)]
theorem Tr.get_set {α : Type} (x : α) : ∀ (n : Nat) (t : Tr α) (a : Nat), a + 1 < 2 ^ n → ∀ i, (Tr.set n t a x).get i = if i = a then some x else t.get i
 | 0, t, a, h, i => absurd h (by simp)
 | n + 1, t, a, h, i => by
  rw [Nat.pow_succ, Nat.mul_comm] at h
  have go : ∀ v l r, (Tr.set (n + 1) (Tr.node v l r) a x).get i = if i = a then some x else (Tr.node v l r).get i := fun v l r => by
   rw [Tr.set_node, Tr.get_node v l r i]
   by_cases ha : a = 0
   ·rw [if_pos ha, Tr.get_node, ha]
    by_cases hi : i = 0
    ·rw [if_pos hi, if_pos hi]
    ·rw [if_neg hi, if_neg hi, if_neg hi]
   ·rw [if_neg ha]
    by_cases pa : a % 2 = 1
    ·rw [if_pos pa, Tr.get_node]
     by_cases hi : i = 0
     ·rw [if_pos hi, if_pos hi, if_neg fun e => ha (e.symm.trans hi)]
     ·rw [if_neg hi, if_neg hi]
      by_cases pi : i % 2 = 1
      ·rw [if_pos pi, if_pos pi, Tr.get_set x n l (a / 2) ((half_lt h ha).resolve_right fun z => z pa)]
       exact if_same ⟨odd_half pi pa, fun e => by rw [e]⟩ _ _
      ·rw [if_neg pi, if_neg pi, if_neg fun e => pi (by rw [e]; exact pa)]
    ·rw [if_neg pa, Tr.get_node]
     by_cases hi : i = 0
     ·rw [if_pos hi, if_pos hi, if_neg fun e => ha (e.symm.trans hi)]
     ·rw [if_neg hi, if_neg hi]
      by_cases pi : i % 2 = 1
      ·rw [if_pos pi, if_pos pi, if_neg fun e => pa (by rw [← e]; exact pi)]
      ·rw [if_neg pi, if_neg pi, Tr.get_set x n r (a / 2 - 1) (half_lt' h ha pa)]
       exact if_same ⟨even_half hi ha pi pa, fun e => by rw [e]⟩ _ _
  cases t with
  | node v l r => exact go v l r
  | nil =>
   refine (go none .nil .nil).trans (if_same Iff.rfl _ _ |>.trans ?_)
   rw [Tr.get_node]
   by_cases e : i = a
   ·rw [if_pos e, if_pos e]
   ·rw [if_neg e, if_neg e]
    by_cases hi : i = 0
    ·rw [if_pos hi]; rfl
    ·rw [if_neg hi]
     by_cases pi : i % 2 = 1
     ·rw [if_pos pi]; rfl
     ·rw [if_neg pi]; rfl
theorem Inv.fresh {c : Cx} {g m news σ s} (I : Inv c g m news σ s) : s.heap.objs.size ∉ g := fun h => by
 obtain ⟨o, ho⟩ := I.mine _ h
 exact absurd (Heap.lt_size (I.nw.get ho)) (Nat.lt_irrefl _)
theorem Inv.lt {c : Cx} {g m news σ s} (I : Inv c g m news σ s) {i o} (h : σ.hp.get i = some o) : i < g.length := by
 obtain ⟨a, ob, h1, _⟩ := I.own i o h
 exact (List.getElem?_eq_some_iff.mp h1).1
theorem Inv.made' {c : Cx} {g m news σ s} (I : Inv c g m news σ s) {o : XO} {ob : Obj} {a : Addr} {h' : Heap} {t : Nat} (h1 : σ.nx < 2000) (F : Fr c.h₀ c.L h' m) (N : News c.h₀ c.L h' ((a, ob) :: news))
  (lt : ∀ p ∈ news, p.1 ≠ a) (r : RelO c.w c.π (g ++ [a]) o ob) (ht : 0 ≤ t) :
  Inv c (g ++ [a]) m ((a, ob) :: news) { σ with hp := Tr.set 12 σ.hp σ.nx o, nx := Nat.succ σ.nx } { s with heap := h', toks := t } := by
 have G := Grow.snoc g a
 have fr : a ∉ g := fun hg => by obtain ⟨o', ho⟩ := I.mine a hg; exact lt _ ho rfl
 have fh : ∀ p ∈ c.H, p.1 ≠ a := fun p hp e => lt _ (I.held p hp) e
 have un : (((a, ob) :: news).map (·.1)).Nodup := List.nodup_cons.mpr ⟨fun hm => by
  obtain ⟨p, hp, e⟩ := List.mem_map.mp hm
  exact lt p hp e, I.uniq⟩
 refine ⟨F, N, fun p hp => List.mem_cons_of_mem _ (I.held p hp), un, by simp [I.nx], h1, ?_, ?_, ?_, ?_, I.loc.grow G, I.cs, ht, I.gens, I.drawn, I.os⟩
 ·rw [List.nodup_append]; refine ⟨I.nodup, by simp, fun x hx y hy => ?_⟩
  simp at hy; subst hy; rintro rfl; exact fr hx
 ·intro b hb p hp
  rcases List.mem_append.mp hb with hb | hb
  ·exact I.apart b hb p hp
  ·simp at hb; subst hb; exact fh p hp
 ·intro b hb
  rcases List.mem_append.mp hb with hb | hb
  ·obtain ⟨o', ho⟩ := I.mine b hb; exact ⟨o', List.mem_cons_of_mem _ ho⟩
  ·simp at hb; subst hb; exact ⟨ob, List.mem_cons_self⟩
 ·intro i o' hi
  change (Tr.set 12 σ.hp σ.nx o).get i = some o' at hi
  rw [Tr.get_set o 12 σ.hp σ.nx (by omega)] at hi
  by_cases e : i = σ.nx
  ·subst e
   rw [if_pos rfl] at hi
   cases hi
   exact ⟨a, ob, by rw [I.nx]; simp, List.mem_cons_self, r⟩
  ·rw [if_neg e] at hi
   obtain ⟨b, ob', x1, x2, x3⟩ := I.own i o' hi
   exact ⟨b, ob', G.get x1, List.mem_cons_of_mem _ x2, x3.grow G⟩
theorem Inv.made {c : Cx} {g m news σ s} (I : Inv c g m news σ s) {o : XO} {ob : Obj} {a : Addr} {h' : Heap} {t : Nat} (h1 : σ.nx < 2000) (F : Fr c.h₀ c.L h' m) (N : News c.h₀ c.L h' ((a, ob) :: news))
  (lt : ∀ p ∈ news, p.1 < a) (r : RelO c.w c.π (g ++ [a]) o ob) (ht : 0 ≤ t) :
  Inv c (g ++ [a]) m ((a, ob) :: news) { σ with hp := Tr.set 12 σ.hp σ.nx o, nx := Nat.succ σ.nx } { s with heap := h', toks := t } :=
 I.made' h1 F N (fun p hp => Nat.ne_of_lt (lt p hp)) r ht
theorem mem_upd {news : List (Addr × Obj)} {a : Addr} {o' : Obj} {p : Addr × Obj} (hp : p ∈ news) (hne : p.1 ≠ a) : p ∈ news.map fun p => if p.1 = a then (a, o') else p :=
 List.mem_map.mpr ⟨p, hp, if_neg hne⟩
theorem Inv.put {c : Cx} {g m news σ s} (I : Inv c g m news σ s) {i : Nat} {o₀ o : XO} {ob ob' : Obj} {a : Addr} {h' : Heap} {t : Nat} (hi : σ.hp.get i = some o₀) (ha : g[i]? = some a) (hm : (a, ob) ∈ news)
  (F : Fr c.h₀ c.L h' m) (N : News c.h₀ c.L h' (news.map fun p => if p.1 = a then (a, ob') else p)) (r : RelO c.w c.π g o ob') (ht : 0 ≤ t) :
  Inv c g m (news.map fun p => if p.1 = a then (a, ob') else p) (storeX i o σ) { s with heap := h', toks := t } := by
 have hg : a ∈ g := List.mem_of_getElem? ha
 have hb : i < 2000 := Nat.lt_of_lt_of_le (by rw [I.nx]; exact I.lt hi) I.cap
 have un : ((news.map fun p => if p.1 = a then (a, ob') else p).map (·.1)).Nodup := by
  rw [List.map_map]
  have e : (fun p : Addr × Obj => p.1) ∘ (fun p => if p.1 = a then (a, ob') else p) = fun p => p.1 := by
   funext p
   show (if p.1 = a then (a, ob') else p).1 = p.1
   split
   ·rename_i q; exact q.symm
   ·rfl
  rw [e]; exact I.uniq
 refine ⟨F, N, fun p hp => mem_upd (I.held p hp) (I.apart a hg p hp), un, I.nx, I.cap, I.nodup, I.apart, ?_, ?_, I.loc, I.cs, ht, I.gens, I.drawn, I.os⟩
 ·intro b hbg
  obtain ⟨ox, hx⟩ := I.mine b hbg
  by_cases e : b = a
  ·subst e; exact ⟨ob', List.mem_map.mpr ⟨(b, ox), hx, if_pos rfl⟩⟩
  ·exact ⟨ox, mem_upd hx e⟩
 ·intro j o' hj
  change (Tr.set 12 σ.hp i o).get j = some o' at hj
  rw [Tr.get_set o 12 σ.hp i (by omega)] at hj
  by_cases e : j = i
  ·subst e
   rw [if_pos rfl] at hj
   cases hj
   exact ⟨a, ob', ha, List.mem_map.mpr ⟨(a, ob), hm, if_pos rfl⟩, r⟩
  ·rw [if_neg e] at hj
   obtain ⟨b, ob2, x1, x2, x3⟩ := I.own j o' hj
   refine ⟨b, ob2, x1, mem_upd x2 ?_, x3⟩
   rintro rfl
   exact e ((List.getElem?_inj (by exact (List.getElem?_eq_some_iff.mp x1).1) I.nodup).mp (x1.trans ha.symm))
theorem Inv.stored {c : Cx} {g m news σ s} (I : Inv c g m news σ s) {i : Nat} {o₀ o : XO} {ob ob' : Obj} {a : Addr} {h' : Heap} {t : Nat} (hi : σ.hp.get i = some o₀) (ha : g[i]? = some a) (hm : (a, ob) ∈ news)
  (hs : Heap.SameBut a s.heap h') (hn : h'.get? a = some ob') (r : RelO c.w c.π g o ob') (ht : 0 ≤ t) :
  Inv c g m (news.map fun p => if p.1 = a then (a, ob') else p) (storeX i o σ) { s with heap := h', toks := t } :=
 I.put hi ha hm (I.fr.update I.nw hm hs) (I.nw.update hm hs hn) r ht
theorem look_put {α : Type} (n : Nat) (x : α) : ∀ (l : List (Nat × α)) (y : Nat), look y (put n x l) = if y = n then some x else look y l
 | [], y => by
  show br (Nat.beq n y) (some x) none = _
  rw [BT.beq_eq]
  by_cases h : y = n
  ·simp [h]
  ·simp [h, Ne.symm h, look]
 | p :: r, y => by
  show look y (br (Nat.beq p.1 n) ((p.1, x) :: r) (p :: put n x r)) = if y = n then some x else br (Nat.beq p.1 y) (some p.2) (look y r)
  rw [BT.beq_eq, BT.beq_eq]
  by_cases h : p.1 = n
  ·subst h
   simp only [decide_true, br_t]
   show br (Nat.beq p.1 y) (some x) (look y r) = _
   rw [BT.beq_eq]
   by_cases e : y = p.1
   ·simp [e]
   ·simp [e, Ne.symm e]
  ·simp only [h, decide_false, br_f]
   show br (Nat.beq p.1 y) (some p.2) (look y (put n x r)) = _
   rw [BT.beq_eq, look_put n x r y]
   by_cases e : p.1 = y
   ·have : y ≠ n := fun q => h (e.trans q)
    simp [e, this]
   ·simp [e]
noncomputable def bigs (l : List Str) (n : Nat) : nmAt l (l.length + n) = ⟨#[2000000 + n]⟩ := by
 induction l with
 | nil => show (⟨#[2000000 + (0 + n)]⟩ : Str) = _; rw [Nat.zero_add]
 | cons x l ih => rw [List.length_cons, show l.length + 1 + n = (l.length + n) + 1 by omega]; exact ih
noncomputable def posOf (s : List Nat) : List Str → Nat → Nat
 | [], n => n
 | x :: r, n => @Bool.rec (fun _ => Nat) (posOf s r (Nat.succ n)) n (Fast.lEq x.cps.toList s)
noncomputable def idOf (s : Str) : Nat := match s.cps.toList with
 | [x] => @Bool.rec (fun _ => Nat) (posOf [x] nmTab 0) (Nat.add (Nat.sub x 2000000) nmLen) (Nat.ble 2000000 x)
 | l => posOf l nmTab 0
theorem tab_len : nmTab.length = nmLen := by kernel_rfl
noncomputable def allR (f : Nat → Bool) (l : List Nat) : Bool := @List.rec Nat (fun _ => Bool) true (fun n _ ih => @Bool.rec (fun _ => Bool) false ih (f n)) l
theorem good_ids : allR (fun n => Nat.beq (idOf (nm n)) n) (List.range nmLen) = true := by kernel_rfl
theorem rec_all (f : Nat → Bool) (l : List Nat) (h : allR f l = true) : ∀ n ∈ l, f n = true := by
 induction l with
 | nil => intro n hn; simp at hn
 | cons x l ih =>
  intro n hn
  change @Bool.rec (fun _ => Bool) false (allR f l) (f x) = true at h
  cases hx : f x with
  | false => rw [hx] at h; exact nomatch h
  | true =>
   rw [hx] at h
   rcases List.mem_cons.mp hn with rfl | hn
   ·exact hx
   ·exact ih h n hn
theorem id_big (k : Nat) (h : Nat.ble 2000000 k = true) : idOf ⟨#[k]⟩ = k - 2000000 + nmLen := by
 show @Bool.rec (fun _ => Nat) _ (k - 2000000 + nmLen) (Nat.ble 2000000 k) = _
 rw [h]
theorem id_nm (n : Nat) : idOf (nm n) = n := by
 by_cases h : n < nmLen
 ·exact Nat.eq_of_beq_eq_true (rec_all (fun n => Nat.beq (idOf (nm n)) n) (List.range nmLen) good_ids n (List.mem_range.mpr h))
 ·have e : nm n = ⟨#[2000000 + (n - nmLen)]⟩ := by
   have := bigs nmTab (n - nmLen)
   rw [tab_len, Nat.add_sub_cancel' (Nat.le_of_not_lt h)] at this
   exact this
  rw [e, id_big _ (Nat.ble_eq_true_of_le (Nat.le_add_right _ _)), Nat.add_sub_cancel_left]
  exact Nat.sub_add_cancel (Nat.le_of_not_lt h)
theorem nm_inj {a b : Nat} (h : nm a = nm b) : a = b := by rw [← id_nm a, ← id_nm b, h]
theorem nm_ne {a b : Nat} (h : a ≠ b) : nm a ≠ nm b := fun e => h (nm_inj e)
theorem RelM.put {π : Pi} {g : Ow} {loc : List (Nat × XV)} {m : Str → Option Value} (h : RelM π g loc m) {n : Nat} {x : XV} {v : Value} (r : RelV π g x v) :
  RelM π g (put n x loc) (fun y => if y = nm n then some v else m y) := fun y x' e => by
 rw [look_put] at e
 by_cases hy : y = n
 ·subst hy; rw [if_pos rfl] at e; cases e; exact ⟨v, if_pos rfl, r⟩
 ·rw [if_neg hy] at e
  obtain ⟨v', a, b⟩ := h y x' e
  exact ⟨v', by show (if nm y = nm n then some v else m (nm y)) = _; rw [if_neg (nm_ne hy)]; exact a, b⟩
end
end Mine
set_option maxRecDepth 100000
set_option genInjectivity false
set_option genSizeOf false
namespace Mine
open PySem PySem.W PySem.Calls PyProof.Rows
section
theorem iop_at {f : Int → Int → Int} {x y z : XI} (h : iop f x y = some z) (π : Pi) : z.at π = f (x.at π) (y.at π) := by
 cases x <;> cases y <;> simp only [iop] at h
 ·cases h; rfl
 ·cases h; rfl
 ·cases h; rfl
 ·rename_i d f1 e f2
  cases q : Nat.beq d e with
  | false => rw [q] at h; cases h
  | true =>
   rw [q] at h
   cases h
   have := Nat.eq_of_beq_eq_true q
   subst this
   rfl
theorem icmp_at {f : Int → Int → Bool} {x y : XI} {z : Tst} (h : icmp f x y = some z) (π : Pi) : z.at π = f (x.at π) (y.at π) := by
 cases x <;> cases y <;> simp only [icmp] at h
 ·cases h; rfl
 ·cases h; rfl
 ·cases h; rfl
 ·rename_i d f1 e f2
  cases q : Nat.beq d e with
  | false => rw [q] at h; cases h
  | true =>
   rw [q] at h
   cases h
   have := Nat.eq_of_beq_eq_true q
   subst this
   rfl
theorem bop_at {f : List UInt8 → List UInt8 → List UInt8} {x y z : XB} (h : bop f x y = some z) (π : Pi) : z.at π = f (x.at π) (y.at π) := by
 cases x <;> cases y <;> simp only [bop] at h
 ·cases h; rfl
 ·cases h; rfl
 ·cases h; rfl
 ·rename_i d f1 e f2
  cases q : Nat.beq d e with
  | false => rw [q] at h; cases h
  | true =>
   rw [q] at h
   cases h
   have := Nat.eq_of_beq_eq_true q
   subst this
   rfl
theorem bfun_at {f : List UInt8 → Int → List UInt8} {x : XB} {y : XI} {z : XB} (h : bfun f x y = some z) (π : Pi) : z.at π = f (x.at π) (y.at π) := by
 cases x <;> cases y <;> simp only [bfun] at h
 ·cases h; rfl
 ·cases h; rfl
 ·cases h; rfl
 ·rename_i d f1 e f2
  cases q : Nat.beq d e with
  | false => rw [q] at h; cases h
  | true =>
   rw [q] at h
   cases h
   have := Nat.eq_of_beq_eq_true q
   subst this
   rfl
theorem bcmp_at {x y : XB} {z : Tst} (h : bcmp x y = some z) (π : Pi) : z.at π = bytesEq (x.at π) (y.at π) := by
 cases x <;> cases y <;> simp only [bcmp] at h
 ·cases h; rfl
 ·cases h; rfl
 ·cases h; rfl
 ·rename_i d f1 e f2
  cases q : Nat.beq d e with
  | false => rw [q] at h; cases h
  | true =>
   rw [q] at h
   cases h
   have := Nat.eq_of_beq_eq_true q
   subst this
   rfl
theorem bytesEq_is : ∀ a b : List UInt8, bytesEq a b = (a == b)
 | [], [] => rfl
 | [], _ :: _ => rfl
 | _ :: _, [] => rfl
 | a :: r, b :: q => by
  show br (Nat.beq a.toNat b.toNat) (bytesEq r q) false = _
  rw [bytesEq_is r q, BT.beq_eq]
  by_cases h : a = b
  ·subst h; simp
  ·have : a.toNat ≠ b.toNat := fun e => h (UInt8.toNat_inj.mp e)
   simp [this, h]
theorem eqB_is (a b : Int) : W.Z.eqB a b = (a == b) := by
 rw [Bool.eq_iff_iff, W.Z.eqB_iff, beq_iff_eq]
theorem ltB_is (a b : Int) : W.Z.ltB a b = decide (a < b) := by
 rw [Bool.eq_iff_iff, W.Z.ltB_iff, decide_eq_true_iff]
theorem leB_is (a b : Int) : W.Z.leB a b = decide (a ≤ b) := by
 rw [Bool.eq_iff_iff, W.Z.leB_iff, decide_eq_true_iff]
theorem mem_keep {f : Pt → Bool} {p : Pt} : ∀ {l : List Pt}, p ∈ keep f l ↔ p ∈ l ∧ f p = true
 | [] => by simp [keep]
 | q :: l => by
  show p ∈ br (f q) (q :: keep f l) (keep f l) ↔ _
  cases h : f q with
  | true =>
   simp only [br_t, List.mem_cons, mem_keep (l := l)]
   constructor
   ·rintro (rfl | ⟨a, b⟩)
    ·exact ⟨.inl rfl, h⟩
    ·exact ⟨.inr a, b⟩
   ·rintro ⟨rfl | a, b⟩
    ·exact .inl rfl
    ·exact .inr ⟨a, b⟩
  | false =>
   simp only [br_f, List.mem_cons, mem_keep (l := l)]
   constructor
   ·rintro ⟨a, b⟩; exact ⟨.inr a, b⟩
   ·rintro ⟨rfl | a, b⟩
    ·rw [h] at b; exact nomatch b
    ·exact ⟨a, b⟩
theorem nthL_zero (y : List Pt) (r : List (List Pt)) : nthL (y :: r) 0 = y := rfl
theorem nthL_succ (y : List Pt) (r : List (List Pt)) (n : Nat) : nthL (y :: r) (n + 1) = nthL r n := rfl
theorem nthL_nil (n : Nat) : nthL [] n = [] := rfl
theorem setL_zero (y : List Pt) (r : List (List Pt)) (x : List Pt) : setL (y :: r) 0 x = x :: r := rfl
theorem setL_succ (y : List Pt) (r : List (List Pt)) (n : Nat) (x : List Pt) : setL (y :: r) (n + 1) x = y :: setL r n x := rfl
theorem nthL_setL (l : List (List Pt)) (x : List Pt) : ∀ (d e : Nat), nthL (setL l d x) e = if e = d ∧ d < l.length then x else nthL l e := by
 induction l with
 | nil => intro d e; show nthL [] e = _; simp
 | cons y r ih =>
  intro d e
  cases d with
  | zero => cases e with
   | zero => rw [setL_zero, nthL_zero]; simp
   | succ e => rw [setL_zero, nthL_succ, nthL_succ]; simp
  | succ d =>
   cases e with
   | zero => rw [setL_succ, nthL_zero, nthL_zero]; simp
   | succ e => rw [setL_succ, nthL_succ, nthL_succ, ih d e]; simp
noncomputable def Cs (c : Cx) (σ σ' : XSt) : Prop := σ'.hp = σ.hp ∧ σ'.nx = σ.nx ∧ σ'.loc = σ.loc ∧ ((∀ d, d < 4 → c.π d ∈ nthL σ.cs d) → ∀ d, d < 4 → c.π d ∈ nthL σ'.cs d)
theorem Cs.refl (c : Cx) (σ : XSt) : Cs c σ σ := ⟨rfl, rfl, rfl, id⟩
theorem Cs.trans {c : Cx} {σ σ' σ'' : XSt} (a : Cs c σ σ') (b : Cs c σ' σ'') : Cs c σ σ'' :=
 ⟨b.1.trans a.1, b.2.1.trans a.2.1, b.2.2.1.trans a.2.2.1, fun h => b.2.2.2 (a.2.2.2 h)⟩
theorem Inv.parts {c : Cx} {g m news σ σ' s} (I : Inv c g m news σ s) (C : Cs c σ σ') : Inv c g m news σ' s := by
 obtain ⟨e1, e2, e3, e4⟩ := C
 exact ⟨I.fr, I.nw, I.held, I.uniq, e2.trans I.nx, e2 ▸ I.cap, I.nodup, I.apart, I.mine, fun i o h => I.own i o (e1 ▸ h), e3 ▸ I.loc, e4 I.cs, I.toks, I.gens, I.drawn, I.os⟩
theorem Is.parts {c : Cx} {g σ σ' s} (I : Is c g σ s) (C : Cs c σ σ') : Is c g σ' s := by
 obtain ⟨m, news, I⟩ := I; exact ⟨m, news, I.parts C⟩
theorem Is.cs {c : Cx} {g σ s} (I : Is c g σ s) : ∀ d, d < 4 → c.π d ∈ nthL σ.cs d := by
 obtain ⟨m, news, I⟩ := I; exact I.cs
theorem tst_ok {t : Option Tst} {σ : XSt} {k : Bool → XSt → Bool} (h : tst t σ k = true) (c : Cx) (hc : ∀ d, d < 4 → c.π d ∈ nthL σ.cs d) :
  ∃ T σ', t = some T ∧ k (T.at c.π) σ' = true ∧ Cs c σ σ' := by
 cases t with
 | none => exact nomatch h
 | some T =>
  cases T with
  | k b => exact ⟨_, σ, rfl, h, Cs.refl c σ⟩
  | v d f =>
   refine ⟨.v d f, ?_⟩
   refine br_el (show br (Nat.blt d 4) _ false = true from h) ?_; clear h; intro hd h
   have hd : d < 4 := Nat.le_of_ble_eq_true hd
   have hm := hc d hd
   show ∃ σ', some (Tst.v d f) = some (Tst.v d f) ∧ k (f (c.π d)) σ' = true ∧ Cs c σ σ'
   have put : ∀ l, c.π d ∈ l → (∀ e, e < 4 → c.π e ∈ nthL σ.cs e) → ∀ e, e < 4 → c.π e ∈ nthL (setL σ.cs d l) e := fun l hl hall e he => by
    rw [nthL_setL]
    split
    ·rename_i q; rw [q.1]; exact hl
    ·exact hall e he
   split at h
   ·rename_i q
    have : f (c.π d) = false := by
     cases hf : f (c.π d) with
     | false => rfl
     | true => have := mem_keep.mpr ⟨hm, hf⟩; rw [q] at this; simp at this
    rw [this]
    exact ⟨σ, rfl, h, Cs.refl c σ⟩
   ·rename_i p ps q
    split at h
    ·rename_i q'
     have : f (c.π d) = true := by
      cases hf : f (c.π d) with
      | true => rfl
      | false => have := mem_keep (f := fun p => !f p).mpr ⟨hm, by simp [hf]⟩; rw [q'] at this; simp at this
     rw [this]
     exact ⟨σ, rfl, h, Cs.refl c σ⟩
    ·rename_i r rs q'
     refine an_el h ?_; intro h1 h2
     cases hf : f (c.π d) with
     | true => exact ⟨_, rfl, h1, rfl, rfl, rfl, put _ (by rw [← q]; exact mem_keep.mpr ⟨hm, hf⟩)⟩
     | false => exact ⟨_, rfl, h2, rfl, rfl, rfl, put _ (by rw [← q']; exact mem_keep (f := fun p => !f p).mpr ⟨hm, by simp [hf]⟩)⟩
theorem allB_ok {f : Pt → Bool} {l : List Pt} (h : allB f l = true) : ∀ p ∈ l, f p = true := by
 induction l with
 | nil => intro p hp; simp at hp
 | cons q l ih =>
  intro p hp
  refine br_el (show br (f q) (allB f l) false = true from h) ?_; intro a b
  rcases List.mem_cons.mp hp with rfl | hp
  ·exact a
  ·exact ih b p hp
theorem allI_ok {f : Int → Bool} {x : XI} {σ : XSt} (h : allI f x σ = true) (c : Cx) (hc : ∀ d, d < 4 → c.π d ∈ nthL σ.cs d) : f (x.at c.π) = true := by
 cases x with
 | k a => exact h
 | v d g =>
  refine br_el (show br (Nat.blt d 4) _ false = true from h) ?_; intro a b
  exact allB_ok b _ (hc d (Nat.le_of_ble_eq_true a))
section
variable {c : Cx} {A : Around} {E : Value → Shared → Prop} {g : Ow} {σ : XSt} {s : Shared}
theorem truthX_ok {v : XV} {va : Value} {k : KB} (h : truthX v σ k = true) (I : Is c g σ s) (r : RelV c.π g v va) : wpAny (model pg c.w) A (truthy va) (Po c g RBl k) E s := by
 cases v with
 | none => cases r; exact fun _ _ _ => Po.now h rfl I
 | bool b => cases r; exact wpAny_truthy_bool (Po.now h rfl I)
 | int i =>
  obtain ⟨t, _, rfl⟩ := r
  obtain ⟨T, σ', e, h', C⟩ := tst_ok h c I.cs
  refine P.truthy_int (Po.now h' ?_ (I.parts C))
  rw [icmp_at e]
  show (!W.Z.eqB _ _) = _
  rw [eqB_is]
  rfl
 | _ => exact nomatch h
theorem Is.tk {n : Nat} (I : Is c g σ s) : Is c g σ { s with toks := s.toks + (n + 1) } := I.tok _ (by omega)
theorem small_ok {x : XI} (h : allI small x σ = true) (I : Is c g σ s) (y : Int) : IntMulOk (x.at c.π) y := by
 have := allI_ok h c I.cs
 have h2 : (x.at c.π).natAbs < 9223372036854775808 := Nat.le_of_ble_eq_true this
 exact IntMulOk.of_left (intBits_le_64 (by omega) (by omega))
theorem small_okR {x : XI} (h : allI small x σ = true) (I : Is c g σ s) (y : Int) : IntMulOk y (x.at c.π) := by
 have := allI_ok h c I.cs
 have h2 : (x.at c.π).natAbs < 9223372036854775808 := Nat.le_of_ble_eq_true this
 exact IntMulOk.of_right (intBits_le_64 (by omega) (by omega))
theorem Po.int {k : KV} {z : XI} {n : Int} (h : k (.int z) σ = true) (I : Is c g σ s) (e : n = z.at c.π) : Po c g (RelV c.π) k (.int n s.toks) { s with toks := s.toks + 1 } :=
 Po.now h ⟨s.toks, I.toks, by rw [e]⟩ (I.tok _ (by omega))
theorem intBin_ok {op : Operator} {x y z : XI} {t u : Tok} {k : KV} (e : intBin op x y σ = some z) (h : k (.int z) σ = true) (I : Is c g σ s) :
  wpAny (model pg c.w) A (binaryOp op (.int (x.at c.π) t) (.int (y.at c.π) u)) (Po c g (RelV c.π) k) E s := by
 cases op <;> simp only [intBin] at e
 case Add => exact P.add_int (Po.int h I (iop_at e c.π).symm)
 case Sub => exact P.sub_int (Po.int h I (iop_at e c.π).symm)
 case Mult =>
  cases h2 : allI small y σ with
  | true =>
   rw [h2] at e
   exact P.mul_int (Po.int h I (iop_at e c.π).symm) (small_okR h2 I _)
  | false =>
   cases h1 : allI small x σ with
   | false => rw [h1, h2] at e; cases e
   | true =>
    rw [h1, h2] at e
    exact P.mul_int (Po.int h I (iop_at e c.π).symm) (small_ok h1 I _)
 case Pow =>
  cases x with
  | v => cases e
  | k m =>
   cases y with
   | v => cases e
   | k b =>
    dsimp only at e
    cases h1 : powB m b with
    | false => rw [h1] at e; cases e
    | true =>
     rw [h1] at e
     cases e
     refine an_el h1 ?_; intro a1 a2
     refine an_el a2 ?_; clear a2; intro a2 a3
     have a1 := (W.Z.ltB_iff 0 b).mp a1
     have a2 := (W.Z.ltB_iff 1 m).mp a2
     exact AutoIntOps.pow_4 (a := m) (b := b) (by omega) (by simp; omega) (by simp; omega) (by simp; omega) (by simpa using a3) (Po.int h I rfl)
 case Mod =>
  cases y with
  | v => cases e
  | k m =>
   dsimp only at e
   cases h1 : W.Z.ltB 0 m with
   | false => rw [h1] at e; cases e
   | true =>
    rw [h1] at e
    have hm := (W.Z.ltB_iff 0 m).mp h1
    exact PyProof.Rows.mod_int (show m ≠ 0 by omega) (Po.int h I (iop_at e c.π).symm)
 case FloorDiv =>
  cases y with
  | v => cases e
  | k m =>
   dsimp only at e
   cases h1 : W.Z.ltB 0 m with
   | false => rw [h1] at e; cases e
   | true =>
    cases h2 : Nat.blt m.natAbs 1073741824 with
    | false => rw [h1, h2] at e; cases e
    | true =>
     rw [h1, h2] at e
     have hm := (W.Z.ltB_iff 0 m).mp h1
     exact PyProof.Rows.floordiv_int (show m ≠ 0 by omega) (Po.int h I (iop_at e c.π).symm) (Or.inl (PyProof.noPylong_small (Nat.le_of_ble_eq_true h2)))
 case BitAnd => exact and_int (Po.int h I (iop_at e c.π).symm)
 case BitOr => exact or_int (Po.int h I (iop_at e c.π).symm)
 all_goals cases e
theorem allocX_ok {o : XO} {k : Nat → XSt → Bool} (h : allocX o σ k = true) : σ.nx < 2000 ∧ k σ.nx { σ with hp := Tr.set 12 σ.hp σ.nx o, nx := Nat.succ σ.nx } = true := by
 refine br_el (show br (Nat.blt σ.nx 2000) _ false = true from h) ?_; intro a b
 exact ⟨Nat.le_of_ble_eq_true a, b⟩
theorem allocX_el {o : XO} {k : Nat → XSt → Bool} {P : Prop} (h : allocX o σ k = true) (f : σ.nx < 2000 → k σ.nx { σ with hp := Tr.set 12 σ.hp σ.nx o, nx := Nat.succ σ.nx } = true → P) : P := f (allocX_ok h).1 (allocX_ok h).2
theorem Inv.alloc {m news} {a : Addr} {h' : Heap} {o : XO} {ob : Obj} {k : KV} {t : Nat} (I : Inv c g m news σ s) (h : allocX o σ (fun i σ => k (.own i) σ) = true) (F : Fr c.h₀ c.L h' m) (N : News c.h₀ c.L h' ((a, ob) :: news))
  (lt : ∀ p ∈ news, p.1 < a) (r : RelO c.w c.π (g ++ [a]) o ob) (ht : 0 ≤ t) : Po c g (RelV c.π) k (.ref a) { s with heap := h', toks := t } := by
 refine allocX_el h ?_; intro h1 h2
 refine ⟨_, _, g ++ [a], h2, Grow.snoc g a, ⟨a, by rw [I.nx]; simp, rfl⟩, m, _, I.made h1 F N lt r ht⟩
theorem Inv.sizes {m news} (I : Inv c g m news σ s) : ∀ p ∈ news, p.1 < s.heap.objs.size := fun p hp => Heap.lt_size (I.nw p hp).1
theorem short_lt {α : Type} {l : List α} (h : short l = true) : l.length < 900 := Nat.le_of_ble_eq_true h
theorem newList_ok {xs : List XV} {vs : List Value} {k : KV} (h : lstX xs σ k = true) (I : Is c g σ s) (r : RelL c.π g xs vs) {M : Model} : wpAny M A (newList vs) (Po c g (RelV c.π) k) E s := by
 obtain ⟨m, news, I⟩ := I
 refine br_el (show br (short xs) _ false = true from h) ?_; intro a b
 have hl := short_lt a
 rw [r.length] at hl
 exact newList_N I.fr I.nw (fun h' F N => I.alloc b F N I.sizes ⟨_, 0, rfl, RelL.grow (Grow.snoc g _) (by simpa using r)⟩ I.toks) (by rw [sizeLine_eq]; omega)
theorem newTuple_ok {xs : List XV} {vs : List Value} {k : KV} (h : tupX xs σ k = true) (I : Is c g σ s) (r : RelL c.π g xs vs) {M : Model} : wpAny M A (newTuple vs) (Po c g (RelV c.π) k) E s := by
 obtain ⟨m, news, I⟩ := I
 refine br_el (show br (short xs) _ false = true from h) ?_; intro a b
 have hl := short_lt a
 rw [r.length] at hl
 exact newTuple_N I.fr I.nw (fun h' F N => I.alloc b F N I.sizes ⟨_, 0, rfl, RelL.grow (Grow.snoc g _) (by simpa using r)⟩ I.toks) (by rw [sizeLine_eq]; omega)
theorem Inv.list {m news i xs} (I : Inv c g m news σ s) (h : σ.hp.get i = some (.list xs)) : ∃ a its n, g[i]? = some a ∧ (a, listOf its n) ∈ news ∧ RelL c.π g xs its.toList := by
 obtain ⟨a, ob, h1, h2, its, n, rfl, h3⟩ := I.own i _ h; exact ⟨a, its, n, h1, h2, h3⟩
theorem Inv.tup {m news i xs} (I : Inv c g m news σ s) (h : σ.hp.get i = some (.tup xs)) : ∃ a its n, g[i]? = some a ∧ (a, tupOf its n) ∈ news ∧ RelL c.π g xs its.toList := by
 obtain ⟨a, ob, h1, h2, its, n, rfl, h3⟩ := I.own i _ h; exact ⟨a, its, n, h1, h2, h3⟩
theorem Inv.listE {m news i xs} {P : Prop} (I : Inv c g m news σ s) (h : σ.hp.get i = some (.list xs)) (f : ∀ a its n, g[i]? = some a → (a, listOf its n) ∈ news → RelL c.π g xs its.toList → P) : P := by
 obtain ⟨a, its, n, h1, h2, h3⟩ := I.list h; exact f a its n h1 h2 h3
theorem Inv.tupE {m news i xs} {P : Prop} (I : Inv c g m news σ s) (h : σ.hp.get i = some (.tup xs)) (f : ∀ a its n, g[i]? = some a → (a, tupOf its n) ∈ news → RelL c.π g xs its.toList → P) : P := by
 obtain ⟨a, its, n, h1, h2, h3⟩ := I.tup h; exact f a its n h1 h2 h3
theorem own_of {i : Nat} {a : Addr} {v : Value} (h : g[i]? = some a) (r : RelV c.π g (.own i) v) : v = .ref a := by
 obtain ⟨b, h1, h2⟩ := r; rw [h] at h1; cases h1; exact h2
theorem repX_is {n : Int} {xs ys : List XV} (h : repX n xs = some ys) : (n = 0 ∧ ys = []) ∨ (n = 1 ∧ ys = xs) := by
 unfold repX at h
 cases h0 : W.Z.eqB n 0 with
 | true => rw [h0] at h; cases h; exact .inl ⟨(W.Z.eqB_iff n 0).mp h0, rfl⟩
 | false =>
  rw [h0] at h
  cases h1 : W.Z.eqB n 1 with
  | true => rw [h1] at h; cases h; exact .inr ⟨(W.Z.eqB_iff n 1).mp h1, rfl⟩
  | false => rw [h1] at h; cases h
theorem allBy_ok {x : XB} (h : allBy x σ = true) (I : Is c g σ s) : (x.at c.π).length < 900 := by
 cases x with
 | k a => exact short_lt h
 | v d f =>
  refine br_el (show br (Nat.blt d 4) _ false = true from h) ?_; intro a b
  exact short_lt (allB_ok b _ (I.cs d (Nat.le_of_ble_eq_true a)))
theorem add_bytes' {w : World} {x y : Array UInt8} {t u : Tok} {Q : Value → Shared → Prop} (hsz : x.size + y.size ≤ 16777216) (h1 : Q (.bytes (x ++ y) u) s) (h2 : Q (.bytes (x ++ y) t) s)
  (h3 : Q (.bytes (x ++ y) s.toks) { s with toks := s.toks + 1 }) : wpAny (model pg w) A (binaryOp .Add (.bytes x t) (.bytes y u)) Q E s := by
 refine concat_gives (typeIs_bytes s x t) (typeIs_bytes s y u) KBy.noFill_bytes_add KBy.seq_bytes_add FB.slot_bytes_add FB.entry_bytes_add (FB.args_bytes_add_2 _ _) (KBy.gives_bytes_add (KBy.tooLong_not hsz)) ?_
 by_cases hb : x.isEmpty = true
 ·rw [if_pos hb]
  rwa [Array.isEmpty_iff.1 hb, Array.empty_append] at h1
 ·rw [if_neg hb]
  by_cases hc : y.isEmpty = true
  ·rw [if_pos hc]
   rwa [Array.isEmpty_iff.1 hc, Array.append_empty] at h2
  ·rw [if_neg hc]
   exact ⟨by rw [Array.size_append, sizeLine_eq]; exact hsz, h3⟩
theorem binX_ok {op : Operator} {a b : XV} {va vb : Value} {k : KV} (h : binX op a b σ k = true) (I : Is c g σ s) (ra : RelV c.π g a va) (rb : RelV c.π g b vb) :
  wpAny (model pg c.w) A (binaryOp op va vb) (Po c g (RelV c.π) k) E s := by
 unfold binX at h
 split at h
 ·-- int
  rename_i x
  split at h
  ·rename_i y
   obtain ⟨t, _, rfl⟩ := ra
   obtain ⟨u, _, rfl⟩ := rb
   split at h
   ·rename_i z e; exact intBin_ok e h I
   ·cases h
  ·cases h
 ·-- bytes
  rename_i x
  split at h
  ·rename_i y
   obtain ⟨t, ht', rfl⟩ := ra
   obtain ⟨u, ht, rfl⟩ := rb
   split at h
   ·rename_i z e
    refine br_el h ?_; intro h1 h2
    have hz := allBy_ok h1 I
    have ez := bop_at e c.π
    rw [ez] at hz
    change ((x.at c.π) ++ (y.at c.π)).length < 900 at hz
    rw [List.length_append] at hz
    have ea : (⟨x.at c.π⟩ ++ ⟨y.at c.π⟩ : Array UInt8) = ⟨z.at c.π⟩ := by rw [ez]; simp
    refine add_bytes' (by show (x.at c.π).length + (y.at c.π).length ≤ _; omega) ?_ ?_ ?_ <;> rw [ea]
    ·exact Po.now h2 ⟨u, ht, rfl⟩ I
    ·exact Po.now h2 ⟨t, ht', rfl⟩ I
    ·exact Po.now h2 ⟨s.toks, I.toks, rfl⟩ (I.tok _ (by omega))
   ·cases h
  ·cases h
 ·-- own
  rename_i i
  split at h
  ·split at h
   ·rename_i j
    split at h
    ·rename_i xs ys e1 e2
     refine br_el h ?_; intro h1 h2
     have hl := short_lt h1
     obtain ⟨m, news, I⟩ := I
     refine I.listE e1 ?_; intro a1 its n1 p1 q1 r1
     refine I.listE e2 ?_; intro a2 its2 n2 p2 q2 r2
     obtain rfl := own_of p1 ra
     obtain rfl := own_of p2 rb
     rw [List.length_append, r1.length, r2.length] at hl
     refine add_lists (vs := its.toList) (ws := its2.toList) I.fr I.nw (by simpa using I.nw.isList q1) (by simpa using I.nw.isList q2) (fun h' F N => ?_) (by rw [sizeLine_eq]; omega)
     exact I.alloc h2 F N I.sizes ⟨_, 0, rfl, RelL.grow (Grow.snoc g _) (by simpa using r1.append r2)⟩ I.toks
    ·rename_i x xs y ys e1 e2
     refine br_el h ?_; intro h1 h2
     have hl := short_lt h1
     obtain ⟨m, news, I⟩ := I
     refine I.tupE e1 ?_; intro a1 its n1 p1 q1 r1
     refine I.tupE e2 ?_; intro a2 its2 n2 p2 q2 r2
     obtain rfl := own_of p1 ra
     obtain rfl := own_of p2 rb
     rw [List.length_append, r1.length, r2.length] at hl
     refine kde_addT (zs := its.toList ++ its2.toList) I.fr I.nw (I.nw.isTup q1) (I.nw.isTup q2) (fun q => ?_) (fun q => ?_) (by omega) rfl (fun D h' F N lt => ?_)
     ·rw [q] at r1; cases r1
     ·rw [q] at r2; cases r2
     ·exact I.alloc h2 F N lt ⟨_, 0, rfl, RelL.grow (Grow.snoc g _) (by simpa using r1.append r2)⟩ I.toks
    ·cases h
   ·cases h
  ·split at h
   ·rename_i n xs e1
    split at h
    ·rename_i ys e2
     refine br_el h ?_; intro h1 h2
     have hl := short_lt h1
     obtain ⟨m, news, I⟩ := I
     refine I.listE e1 ?_; intro a1 its n1 p1 q1 r1
     obtain rfl := own_of p1 ra
     obtain ⟨u, _, rfl⟩ := rb
     rw [r1.length, Array.length_toList] at hl
     change wpAny _ A (binaryOp .Mult (.ref a1) (.int n u)) _ E s
     have hn : n = 0 ∨ n = 1 := (repX_is e2).imp (·.1) (·.1)
     refine mul_list I.fr I.nw (I.nw.get q1) (by rcases hn with rfl | rfl <;> decide) (by rcases hn with rfl | rfl <;> decide) (by rcases hn with rfl | rfl <;> simp <;> omega) (fun h' F N => ?_)
     refine I.alloc h2 F N I.sizes ⟨_, 0, rfl, RelL.grow (Grow.snoc g _) ?_⟩ I.toks
     rcases repX_is e2 with ⟨rfl, rfl⟩ | ⟨rfl, rfl⟩
     ·simpa using All2.nil
     ·by_cases he : its.isEmpty = true
      ·have : its = #[] := Array.isEmpty_iff.mp he
       subst this
       simpa using r1
      ·simpa [he] using r1
    ·cases h
   ·cases h
  ·cases h
 ·cases h
end
end
end Mine
set_option maxRecDepth 100000
set_option genInjectivity false
set_option genSizeOf false
namespace Mine
open PySem PySem.W PySem.Calls PyProof.Rows PySem.SeqAt
open PySem.MeetsSeq (EqGives)
section
structure AOk (A : Around) (n : Nat) : Prop where
 hd : A.handled = none
 dp : A.depth + 2 * n < 990
 un : A.units + 20 * n < 9900
theorem AOk.down {A : Around} {n : Nat} (h : AOk A (n + 1)) : AOk A n := ⟨h.hd, by have := h.dp; omega, by have := h.un; omega⟩
theorem AOk.in1 {A : Around} {n : Nat} (h : AOk A (n + 1)) : AOk A.in1 n := ⟨h.hd, by have := h.dp; show A.depth + 2 * n < 990; omega, by have := h.un; show A.units + 1 + 20 * n < 9900; omega⟩
theorem AOk.room {A : Around} {n : Nat} (h : AOk A n) : A.units < cLine := by have := h.un; show A.units < 9900; omega
theorem AOk.deep {A : Around} {n : Nat} (h : AOk A n) : A.depth < recursionLimit := by have := h.dp; show A.depth < 1000; omega
theorem nm_eq (x y : Nat) : (nm x == nm y) = Nat.beq x y := by
 rw [BT.beq_eq]
 by_cases h : x = y
 ·subst h; simp
 ·have := nm_ne h
  simp [h, this]
noncomputable def fe : Value → Value → Bool
 | .none, .none => true
 | .int a _, .int b _ => a == b
 | .str a _, .str b _ => a == b
 | .bytes a _, .bytes b _ => a.toList == b.toList
 | _, _ => false
theorem feq_gives {a b : XV} {T : Tst} (h : feq a b = some T) {c : Cx} {g : Ow} {va vb : Value} (ra : RelV c.π g a va) (rb : RelV c.π g b vb) (A : Around) (s : Shared) :
  T.at c.π = fe va vb ∧ EqGives va vb (fe va vb) ∧ RcAt A s va vb (fe va vb) ∧ RcNeAt A s va vb (!fe va vb) := by
 unfold feq at h
 split at h
 ·split at h
  ·cases h
   cases ra; cases rb
   exact ⟨rfl, fun prog w A E s Q h => EqAt.same (A := A) (s := s) .none prog w E Q h, fun prog w E Q h => EqNone.eq_none_none h, RcNeAt.none_none⟩
  ·cases h
 ·split at h
  ·obtain ⟨t, _, rfl⟩ := ra
   obtain ⟨u, _, rfl⟩ := rb
   rw [icmp_at h, eqB_is]
   exact ⟨rfl, EqGives.int _ _ t u, fun prog w E Q h => P.eq_int h, RcNeAt.int_int _ _ _ _⟩
  ·cases h
 ·split at h
  ·cases h
   obtain ⟨t, _, rfl⟩ := ra
   obtain ⟨u, _, rfl⟩ := rb
   exact ⟨(nm_eq _ _).symm, eqGives_str _ _ t u, fun prog w E Q h => PyProof.Rows.eq_str h, RcNeAt.str_str _ _ _ _⟩
  ·cases h
 ·rename_i x
  split at h
  ·rename_i y
   obtain ⟨t, _, rfl⟩ := ra
   obtain ⟨u, _, rfl⟩ := rb
   rw [bcmp_at h, bytesEq_is]
   refine ⟨rfl, fun prog w A E s Q h => eqBool_bytes ?_, fun prog w E Q h => eq_bytes h, fun prog w E Q h => ne_bytes ?_⟩
   ·have e : decide (x.at c.π = y.at c.π) = (x.at c.π == y.at c.π) := by rw [Bool.eq_iff_iff]; simp
    show Q (decide (x.at c.π = y.at c.π)) s
    rw [e]; exact h
   ·exact h
  ·cases h
 ·cases h
noncomputable def SEq (n : Nat) : Prop := ∀ {x y : XV} {σ : XSt} {k : KB}, (ev tab n).eq x y σ k = true → ∀ {c : Cx} {g : Ow} {s : Shared} {va vb : Value}, Is c g σ s → RelV c.π g x va → RelV c.π g y vb →
 ∃ b σ', k b σ' = true ∧ Cs c σ σ' ∧ ∀ A, AOk A n → EqAt A s va vb b ∧ RcAt A s va vb b ∧ RcNeAt A s va vb (!b)
noncomputable def SEl (n : Nat) : Prop := ∀ {xs ys : List XV} {σ : XSt} {k : KB}, (ev tab n).el xs ys σ k = true → ∀ {c : Cx} {g : Ow} {s : Shared} {vs ws : List Value}, Is c g σ s → RelL c.π g xs vs → RelL c.π g ys ws →
 ∃ (e : Nat → Bool) (σ' : XSt), k ((List.range vs.length).all e) σ' = true ∧ Cs c σ σ' ∧ ∀ A, AOk A n → ∀ j (h1 : j < vs.length) (h2 : j < ws.length), EqAt A s vs[j] ws[j] (e j)
theorem ev_succ (n : Nat) : ev tab (n + 1) = stepEv tab (ev tab n) := rfl
theorem el_ok {n : Nat} (he : SEq n) (hl : SEl n) : SEl (n + 1) := by
 intro xs ys σ k h c g s vs ws I rx ry
 change stepEl (ev tab n) xs ys σ k = true at h
 cases rx with
 | nil =>
  cases ry with
  | nil => exact ⟨fun _ => true, σ, h, Cs.refl c σ, fun A hA j h1 => absurd h1 (Nat.not_lt_zero _)⟩
  | cons _ _ => exact nomatch h
 | @cons x v xs vs r1 rx =>
  cases ry with
  | nil => exact nomatch h
  | @cons y w ys ws r2 ry =>
   change (ev tab n).eq x y σ (fun b σ => (ev tab n).el xs ys σ fun c σ => k (an b c) σ) = true at h
   obtain ⟨b, σ1, h1, C1, p1⟩ := he h I r1 r2
   obtain ⟨e, σ2, h2, C2, p2⟩ := hl h1 (I.parts C1) rx ry
   refine ⟨fun j => @Nat.casesOn (fun _ => Bool) j b e, σ2, ?_, C1.trans C2, fun A hA j => ?_⟩
   ·rw [List.length_cons, List.range_succ_eq_map, List.all_cons, List.all_map]
    have : (b && (List.range vs.length).all ((fun j => @Nat.casesOn (fun _ => Bool) j b e) ∘ Nat.succ)) = an b ((List.range vs.length).all e) := by cases b <;> rfl
    show k (b && (List.range vs.length).all ((fun j => @Nat.casesOn (fun _ => Bool) j b e) ∘ Nat.succ)) σ2 = true
    rw [this]; exact h2
   ·cases j with
    | zero => intro _ _; exact (p1 A hA.down).1
    | succ j => intro a b; exact p2 A hA.down j (by simpa using a) (by simpa using b)
theorem own_ne {c : Cx} {g : Ow} {m news σ s} (I : Inv c g m news σ s) {i j : Nat} {a b : Addr} (h : i ≠ j) (hi : g[i]? = some a) (hj : g[j]? = some b) : a ≠ b := fun e => by
 subst e
 exact h ((List.getElem?_inj (List.getElem?_eq_some_iff.mp hi).1 I.nodup).mp (hi.trans hj.symm))
theorem eq_ok {n : Nat} (hl : SEl n) : SEq (n + 1) := by
 intro x y σ k h c g s va vb I rx ry
 change eqX (ev tab n) x y σ k = true at h
 have flat : tst (feq x y) σ k = true → ∃ b σ', k b σ' = true ∧ Cs c σ σ' ∧ ∀ A, AOk A (n + 1) → EqAt A s va vb b ∧ RcAt A s va vb b ∧ RcNeAt A s va vb (!b) := fun h => by
  obtain ⟨T, σ', e, h', C⟩ := tst_ok h c I.cs
  exact ⟨_, σ', h', C, fun A _ => by have z := feq_gives e rx ry A s; rw [z.1]; exact ⟨z.2.1.at A s, z.2.2⟩⟩
 unfold eqX at h
 split at h
 ·rename_i i
  split at h
  ·rename_i j
   obtain ⟨hij, h⟩ := br_false h
   have hij : i ≠ j := Nat.ne_of_beq_eq_false hij
   split at h
   ·rename_i xs ys e1 e2
    refine Is.el I ?_; intro m news I'
    refine I'.listE e1 ?_; intro a1 its n1 p1 q1 r1
    refine I'.listE e2 ?_; intro a2 its2 n2 p2 q2 r2
    obtain rfl := own_of p1 rx
    obtain rfl := own_of p2 ry
    have hne := own_ne I' hij p1 p2
    rcases br_and h with ⟨hs, h⟩ | ⟨hs, h⟩
    ·have hs : xs.length = ys.length := Nat.eq_of_beq_eq_true hs
     have hsz : its.size = its2.size := by have a := r1.length; have b := r2.length; simp only [Array.length_toList] at a b; omega
     obtain ⟨e, σ', h', C, p⟩ := hl h I r1 r2
     rw [Array.length_toList] at h'
     refine ⟨_, σ', h', C, fun A hA => ?_⟩
     have he : ∀ j (h1 : j < its.size) (h2 : j < its2.size), EqAt A.in1 s its[j] its2[j] (e j) := fun j h1 h2 => by
      have := p A.in1 hA.in1 j (by simpa using h1) (by simpa using h2)
      simpa using this
     have R := RcAt.lists (I'.nw.isList q1) (I'.nw.isList q2) hsz hA.room he
     exact ⟨EqAt.of_refs hne R, R, RcNeAt.lists (I'.nw.isList q1) (I'.nw.isList q2) hsz hA.room he⟩
    ·have hs : xs.length ≠ ys.length := Nat.ne_of_beq_eq_false hs
     have hsz : (its.size != its2.size) = true := by
      have a := r1.length; have b := r2.length; simp only [Array.length_toList] at a b
      simp; omega
     refine ⟨false, σ, h, Cs.refl c σ, fun A hA => ?_⟩
     have R := RcAt.lists_lengths (A := A) (I'.nw.isList q1) (I'.nw.isList q2) hsz hA.room
     exact ⟨EqAt.of_refs hne R, R, RcNeAt.lists_lengths (I'.nw.isList q1) (I'.nw.isList q2) hsz hA.room⟩
   ·rename_i xs ys e1 e2
    refine Is.el I ?_; intro m news I'
    refine I'.tupE e1 ?_; intro a1 its n1 p1 q1 r1
    refine I'.tupE e2 ?_; intro a2 its2 n2 p2 q2 r2
    obtain rfl := own_of p1 rx
    obtain rfl := own_of p2 ry
    have hne := own_ne I' hij p1 p2
    refine br_el h ?_; clear h; intro hs h
    have hs : xs.length = ys.length := Nat.eq_of_beq_eq_true hs
    have hsz : its.size = its2.size := by have a := r1.length; have b := r2.length; simp only [Array.length_toList] at a b; omega
    obtain ⟨e, σ', h', C, p⟩ := hl h I r1 r2
    rw [Array.length_toList] at h'
    refine ⟨_, σ', h', C, fun A hA => ?_⟩
    have he : ∀ j (h1 : j < its.size) (h2 : j < its2.size), EqAt A.in1 s its[j] its2[j] (e j) := fun j h1 h2 => by
     have := p A.in1 hA.in1 j (by simpa using h1) (by simpa using h2)
     simpa using this
    have R := RcAt.tuples (I'.nw.isTup q1) (I'.nw.isTup q2) hA.room he
    have R' := RcNeAt.tuples (I'.nw.isTup q1) (I'.nw.isTup q2) hA.room he
    have em : ((List.range (min its.size its2.size)).all e && its.size == its2.size) = (List.range its.size).all e := by rw [hsz, Nat.min_self]; simp
    rw [em] at R R'
    exact ⟨EqAt.of_refs hne R, R, R'⟩
   ·exact nomatch h
  ·exact nomatch h
 ·exact flat h
section
variable {c : Cx} {A : Around} {E : Value → Shared → Prop} {g : Ow} {σ : XSt} {s : Shared}
theorem ltX_ok {f : Int → Int → Bool} {op : CmpOp} {x y : XV} {va vb : Value} {k : KB} (h : ltX f x y σ k = true) (I : Is c g σ s) (rx : RelV c.π g x va) (ry : RelV c.π g y vb)
  (rule : ∀ (a b : Int) (t u : Tok) (Q : Value → Shared → Prop), Q (.bool (f a b)) s → wpAny (model pg c.w) A (compareOp op (.int a t) (.int b u)) Q E s) :
  wpAny (model pg c.w) A (compareOp op va vb) (Po c g (fun _ (b : Bool) v => v = .bool b) k) E s := by
 unfold ltX at h
 split at h
 ·split at h
  ·obtain ⟨t, _, rfl⟩ := rx
   obtain ⟨u, _, rfl⟩ := ry
   obtain ⟨T, σ', e, h', C⟩ := tst_ok h c I.cs
   refine rule _ _ _ _ _ (Po.now h' ?_ (I.parts C))
   rw [icmp_at e]
  ·cases h
 ·cases h
noncomputable def SCt (n : Nat) : Prop := ∀ {x : XV} {xs : List XV} {σ : XSt} {k : KB}, (ev tab n).ct x xs σ k = true → ∀ {c : Cx} {g : Ow} {s : Shared} {va : Value} {vs : List Value}, Is c g σ s → RelV c.π g x va → RelL c.π g xs vs →
 ∃ (σ' : XSt), k (vs.any (fe · va)) σ' = true ∧ Cs c σ σ' ∧ ∀ y ∈ vs, EqGives y va (fe y va)
theorem ct_ok {n : Nat} (ih : SCt n) : SCt (n + 1) := by
 intro x xs σ k h c g s va vs I rx rl
 change stepCt (ev tab n) x xs σ k = true at h
 cases rl with
 | nil =>
  refine br_el (show br (flat x) (k false σ) false = true from h) ?_; clear h; intro _ h
  exact ⟨σ, h, Cs.refl c σ, fun y hy => by simp at hy⟩
 | @cons y v ys vs r1 rl =>
  change tst (feq y x) σ (fun b σ => (ev tab n).ct x ys σ fun c σ => k (br b true c) σ) = true at h
  obtain ⟨T, σ1, e1, h1, C1⟩ := tst_ok h c I.cs
  obtain ⟨σ2, h2, C2, p⟩ := ih h1 (I.parts C1) rx rl
  have z := feq_gives e1 r1 rx {} s
  rw [z.1] at h2
  refine ⟨σ2, ?_, C1.trans C2, fun u hu => ?_⟩
  ·rw [List.any_cons]
   cases ht : fe v va <;> rw [ht] at h2 <;> exact h2
  ·rcases List.mem_cons.mp hu with rfl | hu
   ·exact z.2.1
   ·exact p u hu
noncomputable def rmV (va : Value) : List Value → Option (List Value)
 | [] => none
 | y :: r => match fe y va with
  | true => some r
  | false => (rmV va r).map (y :: ·)
noncomputable def SRm (n : Nat) : Prop := ∀ {x : XV} {xs : List XV} {σ : XSt} {k : Option (List XV) → XSt → Bool}, (ev tab n).rm x xs σ k = true → ∀ {c : Cx} {g : Ow} {s : Shared} {va : Value} {vs : List Value}, Is c g σ s → RelV c.π g x va → RelL c.π g xs vs →
 ∃ (o : Option (List XV)) (σ' : XSt), k o σ' = true ∧ Cs c σ σ' ∧ (∀ ys, o = some ys → ∃ ws, rmV va vs = some ws ∧ RelL c.π g ys ws) ∧ ∀ y ∈ vs, EqGives y va (fe y va)
theorem rm_ok {n : Nat} (ih : SRm n) : SRm (n + 1) := by
 intro x xs σ k h c g s va vs I rx rl
 change stepRm (ev tab n) x xs σ k = true at h
 cases rl with
 | nil =>
  refine br_el (show br (flat x) (k none σ) false = true from h) ?_; clear h; intro _ h
  exact ⟨none, σ, h, Cs.refl c σ, fun ys e => (nomatch e), fun y hy => by simp at hy⟩
 | @cons y v ys vs r1 rl =>
  change tst (feq y x) σ (fun b σ => (ev tab n).rm x ys σ fun o σ => k (br b (some ys) (o.casesOn none fun r' => some (y :: r'))) σ) = true at h
  obtain ⟨T, σ1, e1, h1, C1⟩ := tst_ok h c I.cs
  obtain ⟨o, σ2, h2, C2, q, p⟩ := ih h1 (I.parts C1) rx rl
  have z := feq_gives e1 r1 rx {} s
  rw [z.1] at h2
  refine ⟨_, σ2, h2, C1.trans C2, fun zs e => ?_, fun u hu => ?_⟩
  ·show ∃ ws, (match fe v va with | true => some vs | false => (rmV va vs).map (v :: ·)) = some ws ∧ _
   cases ht : fe v va with
   | true => rw [ht] at e; cases e; exact ⟨vs, rfl, rl⟩
   | false =>
    rw [ht] at e
    cases o with
    | none => exact nomatch e
    | some r' =>
     cases e
     obtain ⟨ws, w1, w2⟩ := q r' rfl
     exact ⟨v :: ws, by rw [w1]; rfl, .cons r1 w2⟩
  ·rcases List.mem_cons.mp hu with rfl | hu
   ·exact z.2.1
   ·exact p u hu
end
end
end Mine
set_option maxRecDepth 100000
set_option genInjectivity false
set_option genSizeOf false
namespace Mine
open PySem PySem.W PySem.Calls PyProof.Rows PySem.SeqAt
open PySem.MeetsSeq (EqGives)
section
theorem lookI_cons {α : Type} (n : Int) (p : Int × α) (l : List (Int × α)) : lookI n (p :: l) = if p.1 = n then some p.2 else lookI n l := by
 show br (W.Z.eqB p.1 n) (some p.2) (lookI n l) = _
 by_cases h : p.1 = n
 ·rw [(W.Z.eqB_iff p.1 n).mpr h, if_pos h]; rfl
 ·cases q : W.Z.eqB p.1 n with
  | true => exact absurd ((W.Z.eqB_iff p.1 n).mp q) h
  | false => rw [if_neg h]; rfl
theorem putI_cons {α : Type} (n : Int) (x : α) (p : Int × α) (l : List (Int × α)) : putI n x (p :: l) = if p.1 = n then (p.1, x) :: l else p :: putI n x l := by
 show br (W.Z.eqB p.1 n) ((p.1, x) :: l) (p :: putI n x l) = _
 by_cases h : p.1 = n
 ·rw [(W.Z.eqB_iff p.1 n).mpr h, if_pos h]; rfl
 ·cases q : W.Z.eqB p.1 n with
  | true => exact absurd ((W.Z.eqB_iff p.1 n).mp q) h
  | false => rw [if_neg h]; rfl
theorem delI_cons {α : Type} (n : Int) (p : Int × α) (l : List (Int × α)) : delI n (p :: l) = if p.1 = n then l else p :: delI n l := by
 show br (W.Z.eqB p.1 n) l (p :: delI n l) = _
 by_cases h : p.1 = n
 ·rw [(W.Z.eqB_iff p.1 n).mpr h, if_pos h]; rfl
 ·cases q : W.Z.eqB p.1 n with
  | true => exact absurd ((W.Z.eqB_iff p.1 n).mp q) h
  | false => rw [if_neg h]; rfl
section
variable {π : Pi} {g : Ow}
theorem RelI_look {es : List (Int × XV)} {kvs : List (Int × Value)} (a : All2 (RelI π g) es kvs) (n : Int) :
  (∀ x, lookI n es = some x → ∃ v, valueAt kvs n = some v ∧ RelV π g x v) ∧ (valueAt kvs n).isSome = (lookI n es).isSome := by
 induction a with
 | nil => exact ⟨fun x h => (nomatch h), rfl⟩
 | @cons p e es kvs r _ ih =>
  obtain ⟨k, v⟩ := e
  obtain ⟨r1, r2⟩ := r
  dsimp only at r1 r2
  subst r1
  rw [lookI_cons]
  have e2 : valueAt ((p.1, v) :: kvs) n = if p.1 = n then some v else valueAt kvs n := by
   by_cases h : p.1 = n <;> simp [valueAt, h]
  rw [e2]
  by_cases h : p.1 = n
  ·rw [if_pos h, if_pos h]
   exact ⟨fun x q => by cases q; exact ⟨v, rfl, r2⟩, rfl⟩
  ·rw [if_neg h, if_neg h]; exact ih
theorem RelI.put {es : List (Int × XV)} {kvs : List (Int × Value)} (a : All2 (RelI π g) es kvs) (hn : (kvs.map (·.1)).Nodup) {n : Int} {x : XV} {v : Value} (r : RelV π g x v) :
  All2 (RelI π g) (putI n x es) (stored kvs n v) := by
 induction a with
 | nil => exact .cons ⟨rfl, r⟩ .nil
 | @cons p e es kvs r1 a ih =>
  obtain ⟨k, u⟩ := e
  obtain ⟨q1, q2⟩ := r1
  dsimp only at q1 q2
  subst q1
  rw [putI_cons]
  have hn' := List.nodup_cons.mp hn
  by_cases h : p.1 = n
  ·subst h
   rw [if_pos rfl]
   have : stored ((p.1, u) :: kvs) p.1 v = (p.1, v) :: kvs := by
    unfold stored
    rw [if_pos (by simp)]
    simp only [List.map_cons, if_true]
    rw [map_store_of_not_mem kvs p.1 v hn'.1]
   rw [this]
   exact .cons ⟨rfl, r⟩ a
  ·rw [if_neg h]
   have : stored ((p.1, u) :: kvs) n v = (p.1, u) :: stored kvs n v := by
    unfold stored
    simp only [List.any_cons, List.map_cons, h, decide_false, Bool.false_or, if_false]
    by_cases q : (kvs.any fun kv => decide (kv.1 = n)) = true
    ·rw [if_pos q, if_pos q]
    ·rw [if_neg q, if_neg q]; rfl
   rw [this]
   exact .cons ⟨rfl, q2⟩ (ih hn'.2)
theorem RelI.del {es : List (Int × XV)} {kvs : List (Int × Value)} (a : All2 (RelI π g) es kvs) (hn : (kvs.map (·.1)).Nodup) (n : Int) : All2 (RelI π g) (delI n es) (without kvs n) := by
 induction a with
 | nil => exact .nil
 | @cons p e es kvs r1 a ih =>
  obtain ⟨k, u⟩ := e
  obtain ⟨q1, q2⟩ := r1
  dsimp only at q1 q2
  subst q1
  rw [delI_cons]
  have hn' := List.nodup_cons.mp hn
  by_cases h : p.1 = n
  ·subst h
   rw [if_pos rfl]
   have : without ((p.1, u) :: kvs) p.1 = kvs := by
    have e := without_of_not_mem kvs p.1 hn'.1
    unfold without at e ⊢
    rw [List.filter_cons, if_neg (by simp)]
    exact e
   rw [this]; exact a
  ·rw [if_neg h]
   have : without ((p.1, u) :: kvs) n = (p.1, u) :: without kvs n := by
    unfold without
    rw [List.filter_cons, if_pos (by simpa using h)]
   rw [this]
   exact .cons ⟨rfl, q2⟩ (ih hn'.2)
theorem RelS_look {es : List (Nat × XV)} {kvs : List (Str × Value)} (a : All2 (RelS π g) es kvs) (n : Nat) : ∀ x, look n es = some x → ∃ v, valueAt kvs (nm n) = some v ∧ RelV π g x v := by
 induction a with
 | nil => exact fun x h => (nomatch h)
 | @cons p e es kvs r _ ih =>
  obtain ⟨k, v⟩ := e
  obtain ⟨r1, r2⟩ := r
  dsimp only at r1 r2
  subst r1
  intro x h
  change br (Nat.beq p.1 n) (some p.2) (Mine.look n es) = some x at h
  rw [BT.beq_eq] at h
  have e2 : valueAt ((nm p.1, v) :: kvs) (nm n) = if nm p.1 = nm n then some v else valueAt kvs (nm n) := by
   by_cases h : nm p.1 = nm n <;> simp [valueAt, h]
  rw [e2]
  by_cases q : p.1 = n
  ·rw [decide_eq_true q] at h; cases h; rw [if_pos (by rw [q])]; exact ⟨v, rfl, r2⟩
  ·rw [decide_eq_false q] at h; rw [if_neg (nm_ne q)]; exact ih x h
theorem idxL_get {α : Type} : ∀ (l : List α) (n : Nat), idxL l n = l[n]?
 | [], _ => rfl
 | x :: l, 0 => rfl
 | x :: l, n + 1 => by rw [List.getElem?_cons_succ, ← idxL_get l n]; rfl
end
section
variable {c : Cx} {A : Around} {E : Value → Shared → Prop} {g : Ow} {σ : XSt} {s : Shared}
theorem Inv.idict {m news i es} (I : Inv c g m news σ s) (h : σ.hp.get i = some (.idict es)) : ∃ a ob kvs, g[i]? = some a ∧ (a, ob) ∈ news ∧ s.heap.DictOf (intKind pg c.w) a kvs ∧ All2 (RelI c.π g) es kvs := by
 obtain ⟨a, ob, h1, h2, kvs, h3, h4⟩ := I.own i _ h; exact ⟨a, ob, kvs, h1, h2, Heap.dictOf_iff.mpr ⟨ob, I.nw.get h2, h3⟩, h4⟩
theorem Inv.sdict {m news i es} (I : Inv c g m news σ s) (h : σ.hp.get i = some (.sdict es)) : ∃ a ob kvs, g[i]? = some a ∧ (a, ob) ∈ news ∧ s.heap.DictOf (strKind pg c.w) a kvs ∧ All2 (RelS c.π g) es kvs := by
 obtain ⟨a, ob, h1, h2, kvs, h3, h4⟩ := I.own i _ h; exact ⟨a, ob, kvs, h1, h2, Heap.dictOf_iff.mpr ⟨ob, I.nw.get h2, h3⟩, h4⟩
theorem Inv.idictE {m news i es} {P : Prop} (I : Inv c g m news σ s) (h : σ.hp.get i = some (.idict es)) (f : ∀ a ob kvs, g[i]? = some a → (a, ob) ∈ news → s.heap.DictOf (intKind pg c.w) a kvs → All2 (RelI c.π g) es kvs → P) : P := by
 obtain ⟨a, ob, kvs, h1, h2, h3, h4⟩ := I.idict h; exact f a ob kvs h1 h2 h3 h4
theorem Inv.sdictE {m news i es} {P : Prop} (I : Inv c g m news σ s) (h : σ.hp.get i = some (.sdict es)) (f : ∀ a ob kvs, g[i]? = some a → (a, ob) ∈ news → s.heap.DictOf (strKind pg c.w) a kvs → All2 (RelS c.π g) es kvs → P) : P := by
 obtain ⟨a, ob, kvs, h1, h2, h3, h4⟩ := I.sdict h; exact f a ob kvs h1 h2 h3 h4
structure Base (c : Cx) : Prop where
 sys : ∃ o, c.h₀.get? sysModules = some o
 lim : c.h₀.NoLimit
theorem Inv.notSys (B : Base c) {m news a ob} (I : Inv c g m news σ s) (h : (a, ob) ∈ news) : (a == sysModules) = false := by
 obtain ⟨o, ho⟩ := B.sys
 cases q : a == sysModules with
 | false => rfl
 | true =>
  have : a = sysModules := eq_of_beq q
  subst this
  have := I.nw.fresh h
  rw [ho] at this
  exact nomatch this
noncomputable abbrev RBv (_ : Ow) (b : Bool) (v : Value) : Prop := v = .bool b
theorem relV_none {x : XV} {v : Value} {π : Pi} (r : RelV π g x v) : (v == .none) = isNone x := by
 cases x with
 | none => cases r; rfl
 | bool b => cases r; rfl
 | int i => obtain ⟨_, _, rfl⟩ := r; rfl
 | str i => obtain ⟨_, _, rfl⟩ := r; rfl
 | bytes i => obtain ⟨_, _, rfl⟩ := r; rfl
 | own i => obtain ⟨_, _, rfl⟩ := r; rfl
 | sta a => cases r; rfl
 | bi k => cases r; rfl
 | ty k => cases r; rfl
theorem isNone_none {x : XV} {v : Value} {π : Pi} (h : isNone x = true) (r : RelV π g x v) : v = .none := by
 have := relV_none r
 rw [h] at this
 exact eq_of_beq this
theorem inX_ok {n : Nat} (hc : SCt n) (B : Base c) {a b : XV} {va vb : Value} {k : KB} {R : Value → Bool → Prop} (h : inX (ev tab n) a b σ k = true) (I : Is c g σ s) (ra : RelV c.π g a va) (rb : RelV c.π g b vb) (neg : Bool) :
  wpAny (model pg c.w) A (compareOp (if neg then .NotIn else .In) va vb) (Po c g (fun _ (b : Bool) v => v = .bool (b ^^ neg)) k) E s := by
 unfold inX at h
 split at h
 ·rename_i j
  split at h
  ·rename_i xs e1
   refine Is.el I ?_; intro m news I'
   refine I'.listE e1 ?_; intro a1 its n1 p1 q1 r1
   obtain rfl := own_of p1 rb
   obtain ⟨σ', h', C, p⟩ := hc h I ra r1
   have he : ∀ y, y ∈ its → EqGives y va (fe y va) := fun y hy => p y (by simpa using hy)
   cases neg with
   | false => exact PySem.SeqRoads2.in_list _ he (I'.nw.get q1) (Po.now h' (by simp) (I.parts C))
   | true => exact PySem.SeqRoads2.notIn_list _ he (I'.nw.get q1) (Po.now h' (by simp) (I.parts C))
  ·rename_i xs e1
   refine Is.el I ?_; intro m news I'
   refine I'.tupE e1 ?_; intro a1 its n1 p1 q1 r1
   obtain rfl := own_of p1 rb
   obtain ⟨σ', h', C, p⟩ := hc h I ra r1
   have he : ∀ y, y ∈ its → EqGives y va (fe y va) := fun y hy => p y (by simpa using hy)
   cases neg with
   | false => exact PySem.SeqRoads2.in_tuple _ he (I'.nw.get q1) (Po.now h' (by simp) (I.parts C))
   | true => exact PySem.SeqRoads2.notIn_tuple _ he (I'.nw.get q1) (Po.now h' (by simp) (I.parts C))
  ·rename_i es e1
   split at h
   ·rename_i n
    refine Is.el I ?_; intro m news I'
    refine I'.idictE e1 ?_; intro a1 ob kvs p1 q1 D r1
    obtain rfl := own_of p1 rb
    obtain ⟨t, _, rfl⟩ := ra
    have hs := (RelI_look r1 n).2
    cases neg with
    | false => exact wpAny_in_of (intKind_is pg c.w _ t) (I'.notSys B q1) D.mapOf (Po.now h (by show Value.bool _ = _; rw [show (valueAt kvs ((XI.k n).at c.π)).isSome = _ from hs]; simp) (I.tok _ (by omega)))
    | true => exact wpAny_notIn_of (intKind_is pg c.w _ t) (I'.notSys B q1) D.mapOf (Po.now h (by show Value.bool _ = _; rw [show (valueAt kvs ((XI.k n).at c.π)).isSome = _ from hs]; simp) (I.tok _ (by omega)))
   ·exact nomatch h
  ·exact nomatch h
 ·exact nomatch h
theorem cmpX_ok {n : Nat} (he : SEq n) (hc : SCt n) (B : Base c) (hA : AOk A n) {op : CmpOp} {a b : XV} {va vb : Value} {k : KB} (h : cmpX (ev tab n) op a b σ k = true) (I : Is c g σ s) (ra : RelV c.π g a va) (rb : RelV c.π g b vb) :
  wpAny (model pg c.w) A (compareOp op va vb) (Po c g RBv k) E s := by
 cases op with
 | Eq =>
  obtain ⟨q, σ', h', C, p⟩ := he h I ra rb
  exact (p A hA).2.1 pg c.w E _ (Po.now h' rfl (I.parts C))
 | NotEq =>
  obtain ⟨q, σ', h', C, p⟩ := he h I ra rb
  exact (p A hA).2.2 pg c.w E _ (Po.now h' rfl (I.parts C))
 | Is =>
  refine br_el (show br (isNone b) (k (isNone a) σ) false = true from h) ?_; intro h1 h2
  obtain rfl := isNone_none h1 rb
  exact is_none_gen (Po.now h2 (by rw [relV_none ra]) I)
 | IsNot =>
  refine br_el (show br (isNone b) (k (!isNone a) σ) false = true from h) ?_; intro h1 h2
  obtain rfl := isNone_none h1 rb
  exact isnot_none_gen (Po.now h2 (by rw [relV_none ra]) I)
 | In =>
  refine wpAny_mono (inX_ok (R := fun _ _ => True) hc B (show inX (ev tab n) a b σ k = true from h) I ra rb false) (fun v s' h => ?_) fun _ _ e => e
  obtain ⟨b, σ', g', h1, h2, h3, h4⟩ := h
  exact ⟨b, σ', g', h1, h2, by rw [h3]; simp, h4⟩
 | NotIn =>
  refine wpAny_mono (inX_ok (R := fun _ _ => True) hc B (show inX (ev tab n) a b σ (fun q σ => k (!q) σ) = true from h) I ra rb true) (fun v s' h => ?_) fun _ _ e => e
  obtain ⟨b, σ', g', h1, h2, h3, h4⟩ := h
  exact ⟨!b, σ', g', h1, h2, by rw [h3]; simp, h4⟩
 | Lt => exact ltX_ok h I ra rb fun a b t u Q hq => P.lt_int (by rw [← ltB_is]; exact hq)
 | LtE => exact ltX_ok h I ra rb fun a b t u Q hq => P.le_int (by rw [← leB_is]; exact hq)
 | Gt => exact ltX_ok h I ra rb fun a b t u Q hq => P.gt_int (by have e : gtB a b = decide (a > b) := ltB_is b a; rw [← e]; exact hq)
 | GtE => exact ltX_ok h I ra rb fun a b t u Q hq => P.ge_int (by have e : geB a b = decide (a ≥ b) := leB_is b a; rw [← e]; exact hq)
end
end
end Mine
set_option maxRecDepth 100000
set_option genInjectivity false
set_option genSizeOf false
namespace Mine
open PySem PySem.W PySem.Calls PyProof.Rows PySem.SeqAt
section
noncomputable abbrev Nk := List (Str × NameKind)
noncomputable def okName (x : Str) : Prop := (x == ("__debug__" : Str)) = false
noncomputable def plainBase : Expr → Prop
 | .Call (.Name id _) [] [] _ => (id != ("super" : Str)) = true
 | _ => True
noncomputable def isStar : Expr → Bool
 | .Starred .. => true
 | _ => false
noncomputable def isSlice : Expr → Bool
 | .Slice .. => true
 | _ => false
noncomputable def isAttr : Expr → Bool
 | .Attribute .. => true
 | _ => false
noncomputable def kindE : Expr → Nat
 | .Starred .. => 0
 | .Slice .. => 0
 | .SetComp .. => 0
 | .DictComp .. => 0
 | .Set .. => 0
 | .Tuple .. => 2
 | .ListComp .. => 3
 | _ => 1
noncomputable def ccE : Nat → Bool
 | 1 => false
 | 2 => false
 | _ => true
noncomputable def isComp (e : Expr) : Bool := ccE (kindE e)
noncomputable def kOf (n : Nat) : Nat := br (Nat.beq n 23) 2 (br (Nat.beq n 11) 1 0)
theorem kOf_cases (n : Nat) : kOf n = 0 ∨ (kOf n = 1 ∧ n = 11) ∨ (kOf n = 2 ∧ n = 23) := by
 unfold kOf
 cases e : Nat.beq n 23 with
 | true => exact .inr (.inr ⟨rfl, Nat.eq_of_beq_eq_true e⟩)
 | false =>
  cases e2 : Nat.beq n 11 with
  | true => exact .inr (.inl ⟨rfl, Nat.eq_of_beq_eq_true e2⟩)
  | false => exact .inl rfl
inductive KSt : List Nat → List (Option Expr) → Prop
 | nil : KSt [] []
 | cons {n k p ns es} : KSt ns es → KSt (n :: ns) (some (.Constant (.str (nm n)) k p) :: es)
inductive VSt : List Nat → List Expr → Prop
 | nil : VSt [] []
 | cons {n k p ns es} : VSt ns es → VSt (n :: ns) (.Constant (.str (nm n)) k p :: es)
noncomputable def apartN : List Nat → Bool
 | [] => true
 | n :: r => an (@List.rec Nat (fun _ => Bool) true (fun q _ ih => br (Nat.beq q n) false ih) r) (apartN r)
inductive MElt : Option Nat → Nat → Expr → Prop
 | emp {x p} : MElt none x (.List [] p)
 | row {x n px q} {p : Pos} : okName (nm x) → q.endLine = p.line → MElt (some n) x (.Call (.Attribute (.Name (nm x) px) (nm n) q) [] [] p)
structure CScope (scope : Scope) (x : Nat) : Prop where
 kind : scope.kind = .function
 cell : ∀ y ∈ scope.names, y.2 ≠ .cell ∧ y.2 ≠ .free
 loc : ∀ y ∈ scope.names, y.2 = .local → scope.names.lookup y.1 = some .local
 x : scope.names.lookup (nm x) = some .local
mutual
inductive ME : Nk → X → Expr → Prop
 | kI {ns i k p} : ME ns (.k (.int (.k i))) (.Constant (.int i) k p)
 | kN {ns k p} : ME ns (.k .none) (.Constant .none k p)
 | kB {ns b k p} : ME ns (.k (.bool b)) (.Constant (.bool b) k p)
 | kS {ns n k p} : ME ns (.k (.str n)) (.Constant (.str (nm n)) k p)
 | kY {ns l k p} : ME ns (.k (.bytes (.k l))) (.Constant (.bytes l) k p)
 | loc {ns : Nk} {n p} : ns.lookup (nm n) = some .local → okName (nm n) → ME ns (.loc n) (.Name (nm n) p)
 | glb {ns : Nk} {n p} : ns.lookup (nm n) = some .globalImplicit → okName (nm n) → ME ns (.glb n) (.Name (nm n) p)
 | and_ {ns xs es p} : MEs ns xs es → ME ns (.and_ xs) (.BoolOp .And es p)
 | or_ {ns xs es p} : MEs ns xs es → ME ns (.or_ xs) (.BoolOp .Or es p)
 | bin {ns op x y a b p} : ME ns x a → ME ns y b → ME ns (.bin op x y) (.BinOp a op b p)
 | neg {ns x a p} : ME ns x a → ME ns (.neg x) (.UnaryOp .USub a p)
 | not_ {ns x a p} : ME ns x a → ME ns (.not_ x) (.UnaryOp .Not a p)
 | ife {ns x y z a b c p} : ME ns x a → ME ns y b → ME ns z c → ME ns (.ife x y z) (.IfExp a b c p)
 | cmp {ns op x y a b p} : ME ns x a → ME ns y b → ME ns (.cmp op x y) (.Compare a [op] [b] p)
 | cmp2 {ns op op' x y z a b c p} : ME ns x a → ME ns y b → ME ns z c → ME ns (.cmp2 op op' x y z) (.Compare a [op, op'] [b, c] p)
 | tup {ns xs es k p} : MEs ns xs es → ME ns (.tup xs) (.Tuple es k p)
 | lst {ns xs es p} : MEs ns xs es → ME ns (.lst xs) (.List es p)
 | dic {ns p} : ME ns .dic (.Dict [] [] p)
 | sub {ns x y a b p} : ME ns x a → ME ns y b → ME ns (.sub x y) (.Subscript a b p)
 | sll {ns x y a b q p} : ME ns x a → ME ns y b → ME ns (.sll x y) (.Subscript a (.Slice (some b) none none q) p)
 | slh {ns x y a b q p} : ME ns x a → ME ns y b → ME ns (.slh x y) (.Subscript a (.Slice none (some b) none q) p)
 | slb {ns x y z a b c q p} : ME ns x a → ME ns y b → ME ns z c → ME ns (.slb x y z) (.Subscript a (.Slice (some b) (some c) none q) p)
 | att {ns x a n p} : ME ns x a → plainBase a → ME ns (.att x n) (.Attribute a (nm n) p)
 | met {ns x a n xs es q} {p : Pos} : ME ns x a → plainBase a → MEs ns xs es → es.length < 30 → q.endLine = p.line → ME ns (.met x n xs) (.Call (.Attribute a (nm n) q) es [] p)
 | cal {ns x a xs es p} : ME ns x a → isAttr a = false → MEs ns xs es → ME ns (.cal x xs) (.Call a es [] p)
 | dics {ns ks vs keys values p} : KSt ks keys → VSt vs values → ks.length = vs.length → ks ≠ [] → ks.length ≤ 15 → apartN ks = true → ME ns (.dics ks vs) (.Dict keys values p)
 | tg {ns : Nk} {f x y pf p1 q px py kk p2 a} {p : Pos} : ns.lookup (nm f) = some .globalImplicit → okName (nm f) → (nm f != ("super" : Str)) = true → ns.lookup (nm x) = some .local → okName (nm x) → ns.lookup (nm y) = some .local → okName (nm y) → a = ("get" : Str) → q.endLine = p.line →
   ME ns (.tg f x y) (.Call (.Attribute (.Call (.Name (nm f) pf) [] [] p1) a q) [.Tuple [.Name (nm x) px, .Name (nm y) py] kk p2] [] p)
 | lcp {ns e x it elt iter px scope pos} : MElt e x elt → ME ns it iter → CScope scope x → ME ns (.lcp e x it) (.ListComp elt [⟨.Name (nm x) px, iter, [], 0⟩] scope pos)
inductive MEs : Nk → X → List Expr → Prop
 | nil {ns} : MEs ns .nil []
 | cons {ns x a xs as} : ME ns x a → MEs ns xs as → MEs ns (.cons x xs) (a :: as)
end
theorem ME.kind {ns x e} (h : ME ns x e) : kindE e = kOf x.ctorIdx + 1 := by cases h <;> rfl
theorem ME.ok {ns x e} (h : ME ns x e) : kindE e ≠ 0 := fun z => Nat.succ_ne_zero _ (h.kind.symm.trans z)
noncomputable def MEv (ns : Nk) (x : X) (e : Expr) : Prop := match x with
 | .loc n => ∃ p, e = .Name (nm n) p ∧ ns.lookup (nm n) = some .local ∧ okName (nm n)
 | .glb n => ∃ p, e = .Name (nm n) p ∧ ns.lookup (nm n) = some .globalImplicit ∧ okName (nm n)
 | .or_ xs => ∃ es p, e = .BoolOp .Or es p ∧ MEs ns xs es
 | .not_ x => ∃ a p, e = .UnaryOp .Not a p ∧ ME ns x a
 | .ife x y z => ∃ a b c p, e = .IfExp a b c p ∧ ME ns x a ∧ ME ns y b ∧ ME ns z c
 | .cmp op x y => ∃ a b p, e = .Compare a [op] [b] p ∧ ME ns x a ∧ ME ns y b
 | .sub x y => ∃ a b p, e = .Subscript a b p ∧ ME ns x a ∧ ME ns y b
 | .tup xs => ∃ es k p, e = .Tuple es k p ∧ MEs ns xs es
 | .cal x xs => ∃ a es p, e = .Call a es [] p ∧ ME ns x a ∧ isAttr a = false ∧ MEs ns xs es
 | .lcp e0 x it => ∃ elt iter px scope pos, e = .ListComp elt [⟨.Name (nm x) px, iter, [], 0⟩] scope pos ∧ MElt e0 x elt ∧ ME ns it iter ∧ CScope scope x
 | _ => True
theorem ME.view {ns x e} (m : ME ns x e) : MEv ns x e := by
 cases m with
 | loc a b => exact ⟨_, rfl, a, b⟩
 | glb a b => exact ⟨_, rfl, a, b⟩
 | or_ a => exact ⟨_, _, rfl, a⟩
 | not_ a => exact ⟨_, _, rfl, a⟩
 | ife a b c => exact ⟨_, _, _, _, rfl, a, b, c⟩
 | cmp a b => exact ⟨_, _, _, rfl, a, b⟩
 | sub a b => exact ⟨_, _, _, rfl, a, b⟩
 | tup a => exact ⟨_, _, _, rfl, a⟩
 | cal a b c => exact ⟨_, _, _, rfl, a, b, c⟩
 | lcp a b c => exact ⟨_, _, _, _, _, rfl, a, b, c⟩
 | _ => trivial
noncomputable def MEsv (ns : Nk) (x : X) (l : List Expr) : Prop := match x with
 | .nil => l = []
 | .cons x xs => ∃ a r, l = a :: r ∧ ME ns x a ∧ MEs ns xs r
 | _ => True
theorem MEs.view {ns x l} (m : MEs ns x l) : MEsv ns x l := by
 cases m with
 | nil => exact rfl
 | cons a b => exact ⟨_, _, rfl, a, b⟩
theorem star_no {e} (h : kindE e ≠ 0) : isStar e = false := by cases e <;> first | rfl | exact absurd rfl h
theorem star_cons {e} (h : isStar e = false) (es : List Expr) (env : Env) : starEach (e :: es) env = (false, eval e env) :: starEach es env := by cases e <;> first | rfl | exact Bool.noConfusion h
theorem starEach_cons {ns x e} (h : ME ns x e) (es : List Expr) (env : Env) : starEach (e :: es) env = (false, eval e env) :: starEach es env := star_cons (star_no h.ok) es env
theorem swaps_none {a : Expr} {t : Option Expr} {l : Nat} {env : Env} (h : isComp a = false) : swapsWith a t l env = pure false := by cases a <;> first | rfl | exact Bool.noConfusion h
structure EnvOk (c : Cx) (env : Env) : Prop where
 kind : env.scope.kind = .function
 loc : env.locals = c.L
 glb : env.globals = mainGlobals
 blt : env.builtins = builtinsNs
structure Globs (c : Cx) : Prop where
 ns : ∃ mg mb, c.h₀.Ns mainGlobals mg ∧ c.h₀.Ns builtinsNs mb ∧ ∀ n x, tab.globs.get n = some x → ∃ v, (mg (nm n) = some v ∨ (mg (nm n) = none ∧ mb (nm n) = some v)) ∧ ∀ π g, RelV π g x v
structure ClsOk (K : Frag) (C : Addr) (ci : CI) : Prop where
 get : ∀ x, plainGet K C x = true
 dict : hasDictIn K C = true
 set : findIn K (.ref C) "__setattr__" = some (some (.builtin "object.__setattr__"))
 over : plainOver K C = true
 makes : makesIn K C = true
 keep : keepIn K (.ref C) = true
 init : findIn K (.ref C) "__init__" = some (some (.ref ci.init))
 initF : isFn K (.ref ci.init) = true
 attrs : ∀ n ca, look n ci.attrs = some ca → match ca with
  | none => findIn K (.ref C) (nm n) = some none ∧ takerIn K C (nm n) = some none
  | some (.fn f) => findIn K (.ref C) (nm n) = some (some (.ref f)) ∧ isFn K (.ref f) = true ∧ keepIn K (.ref f) = true
  | some (.prop f) => ∃ p rest, findIn K (.ref C) (nm n) = some (some (.ref p)) ∧ specialIn K (.ref p) "__get__" = some (some (.builtin "property.__get__")) ∧ takesIn K (.ref p) = some true ∧ recIn K p "property" = some (.ref f :: rest)
structure Stat (c : Cx) (K : Frag) : Prop where
 kin : K.In c.h₀
 cls : ∀ C ci, tab.clss.get C = some ci → ClsOk K C ci
 fns : ∀ a fi, tab.funs.get a = some fi → keepIn K (.ref a) = true
noncomputable def SE (K : Frag) (n : Nat) : Prop := ∀ {x : X} {e : Expr} {σ : XSt} {k : KV}, (ev tab n).e x σ k = true → ∀ {ns : Nk}, ME ns x e → ∀ {c : Cx} {g : Ow} {s : Shared} {A : Around} {E : Value → Shared → Prop} {env : Env}, Base c → Globs c → Stat c K → EnvOk c env → env.scope.names = ns → AOk A n → Is c g σ s →
 wpAny (model pg c.w) A (eval e env) (Po c g (RelV c.π) k) E s
noncomputable def ST (K : Frag) (n : Nat) : Prop := ∀ {x : X} {e : Expr} {σ : XSt} {k : KB}, (ev tab n).t x σ k = true → ∀ {ns : Nk}, ME ns x e → ∀ {c : Cx} {g : Ow} {s : Shared} {A : Around} {E : Value → Shared → Prop} {env : Env}, Base c → Globs c → Stat c K → EnvOk c env → env.scope.names = ns → AOk A n → Is c g σ s →
 wpAny (model pg c.w) A (isTrue e env (eval e env)) (Po c g RBl k) E s
noncomputable def SEs (K : Frag) (n : Nat) : Prop := ∀ {x : X} {es : List Expr} {σ : XSt} {k : KL}, (ev tab n).es x σ k = true → ∀ {ns : Nk}, MEs ns x es → ∀ {c : Cx} {g : Ow} {s : Shared} {A : Around} {E : Value → Shared → Prop} {env : Env} {pos : Pos}, Base c → Globs c → Stat c K → EnvOk c env → env.scope.names = ns → AOk A n → Is c g σ s →
 wpAny (model pg c.w) A (spliced (backTo pos (starEach es env))) (Po c g (RelL c.π) k) E s
noncomputable def opOf (stop : Bool) : BoolOp := match stop with
 | true => .Or
 | false => .And
noncomputable def SBo (K : Frag) (n : Nat) : Prop := ∀ {stop : Bool} {x : X} {es : List Expr} {σ : XSt} {k : KV}, (ev tab n).bo stop x σ k = true → ∀ {ns : Nk}, MEs ns x es → ∀ {c : Cx} {g : Ow} {s : Shared} {A : Around} {E : Value → Shared → Prop} {env : Env} {pos : Pos}, Base c → Globs c → Stat c K → EnvOk c env → env.scope.names = ns → AOk A n → Is c g σ s →
 wpAny (model pg c.w) A (boolOp pos (opOf stop) (evalEach es env)) (Po c g (RelV c.π) k) E s
noncomputable def SBt (K : Frag) (n : Nat) : Prop := ∀ {stop : Bool} {x : X} {es : List Expr} {σ : XSt} {k : KB}, (ev tab n).bt stop x σ k = true → ∀ {ns : Nk}, MEs ns x es → ∀ {c : Cx} {g : Ow} {s : Shared} {A : Around} {E : Value → Shared → Prop} {env : Env}, Base c → Globs c → Stat c K → EnvOk c env → env.scope.names = ns → AOk A n → Is c g σ s →
 wpAny (model pg c.w) A (allTrue (opOf stop) es env) (Po c g RBl k) E s
section
variable {K : Frag} {c : Cx} {A : Around} {E : Value → Shared → Prop} {g : Ow} {σ : XSt} {s : Shared} {env : Env} {ns : Nk} {n : Nat}
theorem const_ok {v : XV} {e : Expr} {k : KV} (h : k v σ = true) (m : ME ns (.k v) e) (I : Is c g σ s) {M : Model} : wpAny M A (eval e env) (Po c g (RelV c.π) k) E s := by
 cases m with
 | kI => exact wpAny_Constant_int (Po.now h ⟨_, I.toks, rfl⟩ (I.tok _ (by omega)))
 | kN => exact fun _ _ _ => Po.now h rfl I
 | kB => exact fun _ _ _ => Po.now h rfl I
 | kS => exact fun _ _ _ => Po.now h ⟨_, I.toks, rfl⟩ (I.tok _ (by omega))
 | kY => exact fun _ _ _ => Po.now h ⟨_, I.toks, rfl⟩ (I.tok _ (by omega))
theorem loc_ok {x : Nat} {p : Pos} {k : KV} (h : nameX x σ k = true) (hl : ns.lookup (nm x) = some .local) (hd : okName (nm x)) (Ev : EnvOk c env) (hn : env.scope.names = ns) (I : Is c g σ s) {M : Model} :
  wpAny M A (loadName env (nm x)) (Po c g (RelV c.π) k) E s := by
 unfold nameX at h
 split at h
 ·rename_i v e
  refine Is.el I ?_; intro m news I'
  obtain ⟨u, h1, h2⟩ := I'.loc x v e
  exact wpAny_loadName_local Ev.kind (by show env.scope.names.lookup _ = _; rw [hn]; exact hl) (by rw [Ev.loc]; exact I'.fr.ns) h1 (Po.now h h2 I)
 ·cases h
theorem glb_ok {x : Nat} {p : Pos} {k : KV} (h : globX tab x σ k = true) (hl : ns.lookup (nm x) = some .globalImplicit) (hd : okName (nm x)) (G : Globs c) (S : Stat c K) (Ev : EnvOk c env) (hn : env.scope.names = ns) (I : Is c g σ s) {M : Model} :
  wpAny M A (eval (.Name (nm x) p) env) (Po c g (RelV c.π) k) E s := by
 unfold globX at h
 split at h
 ·rename_i v e
  obtain ⟨mg, mb, g1, g2, g3⟩ := G.ns
  obtain ⟨u, hu, r⟩ := g3 x v e
  refine Is.el I ?_; intro m news I'
  refine Name_function_global Ev.kind (by show env.scope.names.lookup _ = _; rw [hn]; exact hl) ?_ hd
  rcases hu with hu | ⟨hu, hb⟩
  ·exact loadGlobal_global (by rw [Ev.glb]; exact g1.keeps I'.fr.keep) hu (Po.now h (r _ _) I)
  ·exact loadGlobal_builtin (by rw [Ev.glb]; exact g1.keeps I'.fr.keep) hu (by rw [Ev.blt]; exact g2.keeps I'.fr.keep) hb (Po.now h (r _ _) I)
 ·cases h
theorem es_ok (he : SE K n) (hs : SEs K n) : SEs K (n + 1) := by
 intro x es σ k h ns m c g s A E env pos B G S Ev hn hA I
 change stepEs (ev tab n) x σ k = true at h
 cases m with
 | nil => exact wpAny_pure (Po.now h .nil I)
 | cons m1 m2 =>
  rw [starEach_cons m1]
  change (ev tab n).e _ σ (fun a σ => (ev tab n).es _ σ fun xs σ => k (a :: xs) σ) = true at h
  show wpAny _ A (spliced ((false, eval _ env) :: backTo pos (starEach _ env))) _ E s
  refine spliced_cons (wpAny_mono (he h m1 B G S Ev hn hA.down I) (fun v s1 h1 => ?_) fun _ _ e => e)
  obtain ⟨xv, σ1, g1, h1, G1, r1, I1⟩ := h1
  refine wpAny_mono (hs h1 m2 B G S Ev hn hA.down I1) (fun vs s2 h2 => ?_) fun _ _ e => e
  obtain ⟨xs, σ2, g2, h2, G2, r2, I2⟩ := h2
  exact ⟨_, σ2, g2, h2, G1.trans G2, .cons (r1.grow G2) r2, I2⟩
end
end
end Mine
set_option maxRecDepth 100000
set_option genInjectivity false
set_option genSizeOf false
namespace Mine
open PySem PySem.W PySem.Calls PyProof.Rows PySem.SeqAt
section
theorem wpAny_release {M : Model} {A : Around} {E : Value → Shared → Prop} {s : Shared} {vs keep : List Value} {Q : Unit → Shared → Prop} (h : Q () s) : wpAny M A (release vs keep) Q E s := fun Γ p hΓ => by
 rw [Sem.wp_release]; exact h
theorem wpAny_operate {M : Model} {A : Around} {E : Value → Shared → Prop} {s : Shared} {vs : List Value} {m : Sem Value} {Q : Value → Shared → Prop} (h : wpAny M A m Q E s) : wpAny M A (operate vs m) Q E s := fun Γ p hΓ => by
 rw [Sem.wp_operate]; exact h Γ p hΓ
theorem marks_no {ns x e} (h : ME ns x e) (op : CmpOp) : behindInMarks op e = false := by
 have h := h.ok
 cases e <;> first | rfl | exact absurd rfl h
section
variable {K : Frag} {c : Cx} {A : Around} {E : Value → Shared → Prop} {g : Ow} {σ : XSt} {s : Shared} {env : Env} {ns : Nk} {n : Nat}
theorem Po.next {α β γ δ : Type} {M : Model} {R : Ow → β → α → Prop} {R' : Ow → δ → γ → Prop} {k : β → XSt → Bool} {k' : δ → XSt → Bool} {f : α → Sem γ} {t : Sem α} (h : wpAny M A t (Po c g R k) E s)
  (hf : ∀ a b σ' g' s', k b σ' = true → Grow g g' → R g' b a → Is c g' σ' s' → wpAny M A (f a) (Po c g' R' k') E s') : wpAny M A (t >>= f) (Po c g R' k') E s :=
 wpAny_bind (wpAny_mono h (fun a s' h' => by
  obtain ⟨b, σ', g', h1, G, r, I⟩ := h'
  exact wpAny_mono (hf a b σ' g' s' h1 G r I) (fun _ _ q => q.up G) fun _ _ e => e) fun _ _ e => e)
theorem Po.then {α β γ δ : Type} {M : Model} {R : Ow → β → α → Prop} {R' : Ow → δ → γ → Prop} {k : β → XSt → Bool} {k' : δ → XSt → Bool} {f : α → Sem γ} {t : Sem α} (h : wpAny M A t (Po c g R k) E s)
  (hf : ∀ a b σ' g' s', k b σ' = true → Grow g g' → R g' b a → Is c g' σ' s' → wpAny M A (f a) (Po c g' R' k') E s') : wpAny M A t (fun a s' => wpAny M A (f a) (Po c g R' k') E s') E s :=
 wpAny_mono h (fun a s' h' => by
  obtain ⟨b, σ', g', h1, G, r, I⟩ := h'
  exact wpAny_mono (hf a b σ' g' s' h1 G r I) (fun _ _ q => q.up G) fun _ _ e => e) fun _ _ e => e
theorem bo_ok (he : SE K n) (hb : SBo K n) : SBo K (n + 1) := by
 intro stop x es σ k h ns m c g s A E env pos B G S Ev hn hA I
 change stepBo (ev tab n) stop x σ k = true at h
 cases m with
 | nil => exact nomatch h
 | cons m1 m2 =>
  cases m2 with
  | nil => exact he (show (ev tab n).e _ σ k = true from h) m1 B G S Ev hn hA.down I
  | cons m3 m4 =>
   rename_i x1 a1 x2 a2 xs as
   change (ev tab n).e x1 σ (fun a σ => truthX a σ fun b σ => br stop (br b (k a σ) ((ev tab n).bo stop (.cons x2 xs) σ k)) (br b ((ev tab n).bo stop (.cons x2 xs) σ k) (k a σ))) = true at h
   show wpAny _ A (eval a1 env >>= fun v => do
    standAt pos
    let t ← holding [v] (truthy v)
    match opOf stop, t with
    | .And, false | .Or, true => pure v
    | _, _ => boolOp pos (opOf stop) (evalEach (a2 :: as) env)) _ E s
   refine Po.next (he h m1 B G S Ev hn hA.down I) fun v xv σ1 g1 s1 h1 G1 r1 I1 => ?_
   refine wpAny_bind (wpAny_standAt (Po.next (wpAny_holding (truthX_ok h1 I1 r1)) fun t b σ2 g2 s2 h2 G2 r2 I2 => ?_))
   cases r2
   cases stop <;> cases t
   ·exact wpAny_pure (Po.now h2 (r1.grow G2) I2)
   ·exact hb h2 (.cons m3 m4) B G S Ev hn hA.down I2
   ·exact hb h2 (.cons m3 m4) B G S Ev hn hA.down I2
   ·exact wpAny_pure (Po.now h2 (r1.grow G2) I2)
theorem bt_ok (ht : ST K n) (hb : SBt K n) : SBt K (n + 1) := by
 intro stop x es σ k h ns m c g s A E env B G S Ev hn hA I
 change stepBt (ev tab n) stop x σ k = true at h
 cases m with
 | nil => cases stop <;> exact wpAny_pure (Po.now h rfl I)
 | cons m1 m2 =>
  rename_i x1 a1 xs as
  change (ev tab n).t x1 σ (fun b σ => br stop (br b (k true σ) ((ev tab n).bt stop xs σ k)) (br b ((ev tab n).bt stop xs σ k) (k false σ))) = true at h
  show wpAny _ A (isTrue a1 env (eval a1 env) >>= fun t => match opOf stop, t with
    | .And, false => pure false
    | .Or, true => pure true
    | _, _ => allTrue (opOf stop) as env) _ E s
  refine Po.next (ht h m1 B G S Ev hn hA.down I) fun t b σ1 g1 s1 h1 G1 r1 I1 => ?_
  cases r1
  cases stop <;> cases t
  ·exact wpAny_pure (Po.now h1 rfl I1)
  ·exact hb h1 m2 B G S Ev hn hA.down I1
  ·exact hb h1 m2 B G S Ev hn hA.down I1
  ·exact wpAny_pure (Po.now h1 rfl I1)
theorem negX_ok {v : XV} {va : Value} {k : KV} (h : negX v σ k = true) (I : Is c g σ s) (r : RelV c.π g v va) : wpAny (model pg c.w) A (unaryOp .USub va) (Po c g (RelV c.π) k) E s := by
 unfold negX at h
 split at h
 ·rename_i i
  obtain ⟨t, _, rfl⟩ := r
  split at h
  ·rename_i z e
   exact P.neg_int (Po.int h I (by rw [iop_at e]; exact (Int.zero_sub _).symm))
  ·cases h
 ·cases h
theorem cmp2_marks {ns y z a b} (m1 : ME ns y a) (m2 : ME ns z b) (op op' : CmpOp) (env : Env) : markedEach [op, op'] [a, b] (evalEach [a, b] env) = [eval a env, eval b env] := by
 show [eval a env, markedBehindIn op' b (eval b env)] = _
 rw [markedBehindIn_of_false (marks_no m2 op')]
theorem bin_ok (he : SE K n) {op x y a b p} {k : KV} (h : stepE tab (ev tab n) (.bin op x y) σ k = true) (m1 : ME ns x a) (m2 : ME ns y b) (B : Base c) (G : Globs c) (S : Stat c K) (Ev : EnvOk c env) (hn : env.scope.names = ns) (hA : AOk A n) (I : Is c g σ s) :
  wpAny (model pg c.w) A (eval (.BinOp a op b p) env) (Po c g (RelV c.π) k) E s := by
 change (ev tab n).e x σ (fun a σ => (ev tab n).e y σ fun b σ => binX op a b σ k) = true at h
 refine wpAny_BinOp (Po.go (he h m1 B G S Ev hn hA I) fun v s1 xv σ1 g1 h1 G1 r1 I1 => ?_)
 refine Po.go (he h1 m2 B G S Ev hn hA I1) fun u s2 yv σ2 g2 h2 G2 r2 I2 => ?_
 exact wpAny_mono (binX_ok h2 I2 (r1.grow G2) r2) (fun _ _ q => q.up (G1.trans G2)) fun _ _ e => e
theorem cmp1_ok (he : SE K n) (hq : SEq n) (hc : SCt n) {op x y a b p} {k : KV} (h : stepE tab (ev tab n) (.cmp op x y) σ k = true) (m1 : ME ns x a) (m2 : ME ns y b) (B : Base c) (G : Globs c) (S : Stat c K) (Ev : EnvOk c env) (hn : env.scope.names = ns) (hA : AOk A n) (I : Is c g σ s) :
  wpAny (model pg c.w) A (eval (.Compare a [op] [b] p) env) (Po c g (RelV c.π) k) E s := by
 change (ev tab n).e x σ (fun a σ => (ev tab n).e y σ fun b σ => cmpX (ev tab n) op a b σ fun q σ => k (.bool q) σ) = true at h
 refine wpAny_Compare1 (Po.go (he h m1 B G S Ev hn hA I) fun v s1 xv σ1 g1 h1 G1 r1 I1 => ?_) (marks_no m2 op)
 refine Po.go (he h1 m2 B G S Ev hn hA I1) fun u s2 yv σ2 g2 h2 G2 r2 I2 => ?_
 refine Po.go (cmpX_ok hq hc B hA h2 I2 (r1.grow G2) r2) fun v s3 b σ3 g3 h3 G3 r3 I3 => ?_
 exact ⟨.bool b, σ3, g3, h3, (G1.trans G2).trans G3, r3, I3⟩
theorem tcmp1_ok (he : SE K n) (hq : SEq n) (hc : SCt n) {op x y a b p} {k : KB} (h : stepT (ev tab n) (.cmp op x y) σ k = true) (m1 : ME ns x a) (m2 : ME ns y b) (B : Base c) (G : Globs c) (S : Stat c K) (Ev : EnvOk c env) (hn : env.scope.names = ns) (hA : AOk A n) (I : Is c g σ s) {whole : Sem Value} :
  wpAny (model pg c.w) A (isTrue (.Compare a [op] [b] p) env whole) (Po c g RBl k) E s := by
 change (ev tab n).e x σ (fun a σ => (ev tab n).e y σ fun b σ => cmpX (ev tab n) op a b σ k) = true at h
 refine wpAny_isTrue_Compare1 (Po.go (he h m1 B G S Ev hn hA I) fun v s1 xv σ1 g1 h1 G1 r1 I1 => ?_) (marks_no m2 op)
 refine Po.go (he h1 m2 B G S Ev hn hA I1) fun u s2 yv σ2 g2 h2 G2 r2 I2 => ?_
 refine wpAny_mono (cmpX_ok hq hc B hA h2 I2 (r1.grow G2) r2) (fun v s3 q => ?_) fun _ _ e => e
 obtain ⟨b, σ3, g3, h3, G3, rfl, I3⟩ := q
 exact wpAny_truthy_bool ⟨b, σ3, g3, h3, (G1.trans G2).trans G3, rfl, I3⟩
theorem cmp2_ok (he : SE K n) (hq : SEq n) (hc : SCt n) {op op' x y z a b d p} {k : KV} (h : stepE tab (ev tab n) (.cmp2 op op' x y z) σ k = true) (m1 : ME ns x a) (m2 : ME ns y b) (m3 : ME ns z d) (B : Base c) (G : Globs c) (S : Stat c K) (Ev : EnvOk c env) (hn : env.scope.names = ns) (hA : AOk A n) (I : Is c g σ s) :
  wpAny (model pg c.w) A (eval (.Compare a [op, op'] [b, d] p) env) (Po c g (RelV c.π) k) E s := by
 change (ev tab n).e x σ (fun a σ => (ev tab n).e y σ fun b σ => cmpX (ev tab n) op a b σ fun q σ => br q ((ev tab n).e z σ fun c σ => cmpX (ev tab n) op' b c σ fun q σ => k (.bool q) σ) (k (.bool false) σ)) = true at h
 show wpAny _ A (eval a env >>= fun l => compareChain p l [op, op'] (markedEach [op, op'] [b, d] (evalEach [b, d] env))) _ E s
 rw [cmp2_marks m2 m3]
 refine Po.next (he h m1 B G S Ev hn hA I) fun v xv σ1 g1 s1 h1 G1 r1 I1 => ?_
 show wpAny _ A (holding [v] (eval b env) >>= _) _ E s1
 refine Po.next (wpAny_holding (he h1 m2 B G S Ev hn hA I1)) fun u yv σ2 g2 s2 h2 G2 r2 I2 => ?_
 refine wpAny_bind (wpAny_standAt (Po.next (wpAny_holding (cmpX_ok hq hc B hA h2 I2 (r1.grow G2) r2)) fun q bq σ3 g3 s3 h3 G3 r3 I3 => ?_))
 obtain rfl := r3
 refine wpAny_bind (wpAny_release ?_)
 refine wpAny_bind (wpAny_holding (wpAny_truthy_bool ?_))
 cases bq with
 | false => exact wpAny_pure (Po.now h3 rfl I3)
 | true =>
  show wpAny _ A (holding [u] (eval d env) >>= _) _ E s3
  refine Po.next (wpAny_holding (he h3 m3 B G S Ev hn hA I3)) fun w zv σ4 g4 s4 h4 G4 r4 I4 => ?_
  refine wpAny_bind (wpAny_standAt (wpAny_operate ?_))
  refine Po.go (cmpX_ok hq hc B hA h4 I4 ((r2.grow G3).grow G4) r4) fun v s5 b σ5 g5 h5 G5 r5 I5 => ?_
  exact ⟨.bool b, σ5, g5, h5, G5, r5, I5⟩
theorem tcmp2_ok (he : SE K n) (hq : SEq n) (hc : SCt n) {op op' x y z a b d p} {k : KB} (h : stepT (ev tab n) (.cmp2 op op' x y z) σ k = true) (m1 : ME ns x a) (m2 : ME ns y b) (m3 : ME ns z d) (B : Base c) (G : Globs c) (S : Stat c K) (Ev : EnvOk c env) (hn : env.scope.names = ns) (hA : AOk A n) (I : Is c g σ s) {whole : Sem Value} :
  wpAny (model pg c.w) A (isTrue (.Compare a [op, op'] [b, d] p) env whole) (Po c g RBl k) E s := by
 change (ev tab n).e x σ (fun a σ => (ev tab n).e y σ fun b σ => cmpX (ev tab n) op a b σ fun q σ => br q ((ev tab n).e z σ fun c σ => cmpX (ev tab n) op' b c σ k) (k false σ)) = true at h
 show wpAny _ A (eval a env >>= fun l => testChain p l [op, op'] (markedEach [op, op'] [b, d] (evalEach [b, d] env))) _ E s
 rw [cmp2_marks m2 m3]
 refine Po.next (he h m1 B G S Ev hn hA I) fun v xv σ1 g1 s1 h1 G1 r1 I1 => ?_
 show wpAny _ A (holding [v] (eval b env) >>= _) _ E s1
 refine Po.next (wpAny_holding (he h1 m2 B G S Ev hn hA I1)) fun u yv σ2 g2 s2 h2 G2 r2 I2 => ?_
 refine wpAny_bind (wpAny_standAt (Po.next (wpAny_holding (cmpX_ok hq hc B hA h2 I2 (r1.grow G2) r2)) fun q bq σ3 g3 s3 h3 G3 r3 I3 => ?_))
 obtain rfl := r3
 refine wpAny_bind (wpAny_release ?_)
 refine wpAny_bind (wpAny_holding (wpAny_truthy_bool ?_))
 cases bq with
 | false => exact wpAny_pure (Po.now h3 rfl I3)
 | true =>
  show wpAny _ A (holding [u] (eval d env) >>= _) _ E s3
  refine Po.next (wpAny_holding (he h3 m3 B G S Ev hn hA I3)) fun w zv σ4 g4 s4 h4 G4 r4 I4 => ?_
  refine wpAny_bind (wpAny_standAt (Po.next (wpAny_operate (cmpX_ok hq hc B hA h4 I4 ((r2.grow G3).grow G4) r4)) fun v b σ5 g5 s5 h5 G5 r5 I5 => ?_))
  obtain rfl := r5
  exact wpAny_holding (wpAny_truthy_bool (Po.now h5 rfl I5))
theorem t_ok (he : SE K n) (ht : ST K n) (hb : SBt K n) (hq : SEq n) (hc : SCt n) : ST K (n + 1) := by
 intro x e σ k h ns m c g s A E env B G S Ev hn hA I
 change stepT (ev tab n) x σ k = true at h
 have whole : (ev tab n).e x σ (fun a σ => truthX a σ k) = true → (isTrue e env (eval e env) = (do let v ← eval e env; standAt e.pos; holding [v] (truthy v))) → wpAny (model pg c.w) A (isTrue e env (eval e env)) (Po c g RBl k) E s := fun h eq => by
  rw [eq]
  refine Po.next (he h m B G S Ev hn hA.down I) fun v xv σ1 g1 s1 h1 G1 r1 I1 => ?_
  exact wpAny_bind (wpAny_standAt (wpAny_holding (truthX_ok h1 I1 r1)))
 cases m with
 | not_ m1 =>
  rename_i x1 a1 p
  change (ev tab n).t x1 σ (fun b σ => k (!b) σ) = true at h
  show wpAny _ A (isTrue a1 env (eval a1 env) >>= fun t => pure (!t)) _ E s
  refine Po.next (ht h m1 B G S Ev hn hA.down I) fun t b σ1 g1 s1 h1 G1 r1 I1 => ?_
  cases r1
  exact wpAny_pure (Po.now h1 rfl I1)
 | and_ m1 => exact hb (stop := false) h m1 B G S Ev hn hA.down I
 | or_ m1 => exact hb (stop := true) h m1 B G S Ev hn hA.down I
 | ife m1 m2 m3 =>
  rename_i x1 y1 z1 a1 b1 c1 p
  change (ev tab n).t x1 σ (fun q σ => br q ((ev tab n).t y1 σ k) ((ev tab n).t z1 σ k)) = true at h
  show wpAny _ A (isTrue a1 env (eval a1 env) >>= fun t => if t then isTrue b1 env (eval b1 env) else isTrue c1 env (eval c1 env)) _ E s
  refine Po.next (ht h m1 B G S Ev hn hA.down I) fun t b σ1 g1 s1 h1 G1 r1 I1 => ?_
  cases r1
  cases t with
  | true => exact ht h1 m2 B G S Ev hn hA.down I1
  | false => exact ht h1 m3 B G S Ev hn hA.down I1
 | cmp m1 m2 => exact tcmp1_ok he hq hc h m1 m2 B G S Ev hn hA.down I
 | cmp2 m1 m2 m3 => exact tcmp2_ok he hq hc h m1 m2 m3 B G S Ev hn hA.down I
 | _ => exact whole h rfl
end
end
end Mine
set_option maxRecDepth 100000
set_option genInjectivity false
set_option genSizeOf false
namespace Mine
open PySem PySem.W PySem.Calls PyProof.Rows PySem.SeqAt
section
theorem upd_of {d : Addr} {o o' : Obj} : ∀ {news : List (Addr × Obj)}, (d, o) ∈ news → (news.map (·.1)).Nodup → Upd d o o' news (news.map fun p => if p.1 = d then (d, o') else p)
 | [], h, _ => by simp at h
 | p :: r, h, hn => by
  have hn' := List.nodup_cons.mp hn
  rcases List.mem_cons.mp h with rfl | h
  ·have e : (r.map fun p => if p.1 = d then (d, o') else p) = r := by
    conv => rhs; rw [← List.map_id r]
    refine List.map_congr_left fun q hq => ?_
    have : q.1 ≠ d := fun e => hn'.1 (List.mem_map.mpr ⟨q, hq, e⟩)
    simp [this]
   rw [List.map_cons, if_pos rfl, e]
   exact .head fun q hq e => hn'.1 (List.mem_map.mpr ⟨q, hq, e⟩)
  ·have hne : p.1 ≠ d := fun e => hn'.1 (List.mem_map.mpr ⟨(d, o), h, e.symm⟩)
   rw [List.map_cons, if_neg hne]
   exact .tail hne (upd_of h hn'.2)
section
variable {π : Pi} {g : Ow}
theorem look_cons {α : Type} (n : Nat) (p : Nat × α) (l : List (Nat × α)) : look n (p :: l) = if p.1 = n then some p.2 else look n l := by
 show br (Nat.beq p.1 n) (some p.2) (look n l) = _
 rw [BT.beq_eq]
 by_cases h : p.1 = n <;> simp [h]
theorem put_cons {α : Type} (n : Nat) (x : α) (p : Nat × α) (l : List (Nat × α)) : put n x (p :: l) = if p.1 = n then (p.1, x) :: l else p :: put n x l := by
 show br (Nat.beq p.1 n) ((p.1, x) :: l) (p :: put n x l) = _
 rw [BT.beq_eq]
 by_cases h : p.1 = n <;> simp [h]
theorem isStr_nm (a b : Nat) (t : Tok) : (Value.str (nm a) t).isStr (nm b) = decide (a = b) := by
 show (nm a == nm b) = _
 rw [nm_eq, BT.beq_eq]
theorem getL_cons (name : Str) (e : DictEntry) (es : List DictEntry) (hr : e.refKey = false) : getL name (e :: es) = if e.key.isStr name then some (some e.val) else getL name es := by
 unfold getL
 rw [List.find?_cons]
 cases h : e.key.isStr name with
 | true => rfl
 | false => simp only [List.any_cons, hr, Bool.false_or]; rfl
theorem RelF_look {fs : List (Nat × XV)} {es : List DictEntry} (a : All2 (RelF π g) fs es) (n : Nat) :
  match look n fs with
  | some x => ∃ v, getL (nm n) es = some (some v) ∧ RelV π g x v
  | none => getL (nm n) es = some none := by
 induction a with
 | nil => rfl
 | @cons p e fs es r _ ih =>
  obtain ⟨⟨t, hk⟩, r2⟩ := r
  have hr : e.refKey = false := by unfold DictEntry.refKey; rw [hk]
  rw [look_cons, getL_cons _ _ _ hr, hk, isStr_nm]
  by_cases h : p.1 = n
  ·simp only [h, if_true, decide_true]; exact ⟨_, rfl, r2⟩
  ·simp only [h, if_false, decide_false, Bool.false_eq_true]; exact ih
theorem RelF_put {fs : List (Nat × XV)} {es : List DictEntry} (a : All2 (RelF π g) fs es) {n : Nat} {x : XV} {v : Value} (r : RelV π g x v) (hsh : Int) (t : Tok) :
  All2 (RelF π g) (put n x fs) (putL (nm n) hsh (.str (nm n) t) v es) := by
 induction a with
 | nil => exact .cons ⟨⟨t, rfl⟩, r⟩ .nil
 | @cons p e fs es r1 a ih =>
  obtain ⟨⟨u, hk⟩, r2⟩ := r1
  rw [put_cons]
  show All2 _ _ (if e.key.isStr (nm n) then _ else _)
  rw [hk, isStr_nm]
  by_cases h : p.1 = n
  ·simp only [h, if_true, decide_true]
   exact .cons ⟨⟨u, by rw [← h]⟩, r⟩ a
  ·simp only [h, if_false, decide_false, Bool.false_eq_true]
   exact .cons ⟨⟨u, hk⟩, r2⟩ ih
theorem put_length {α : Type} (n : Nat) (x : α) : ∀ l : List (Nat × α), (put n x l).length ≤ l.length + 1
 | [] => by simp [put]
 | p :: l => by
  rw [put_cons]
  split
  ·simp
  ·simp; exact put_length n x l
end
noncomputable def RetP (Q : Value → Shared → Prop) (r : Result) (s : Shared) : Prop := match r with
 | .ok (.ret v) => Q v s
 | _ => False
noncomputable def SC (K : Frag) (n : Nat) : Prop := ∀ {a : Addr} {xs : List XV} {σ : XSt} {k : KV}, (ev tab n).c a xs σ k = true → ∀ {c : Cx} {g : Ow} {s : Shared} {A : Around} {vs : List Value}, Base c → Globs c → Stat c K → AOk A n → Is c g σ s → RelL c.π g xs vs →
 codeAny (model pg c.w) A (.call (.ref a) ⟨vs, []⟩) (RetP (Po c g (RelV c.π) k)) s
section
variable {c : Cx} {K : Frag} {A : Around} {E : Value → Shared → Prop} {g : Ow} {σ : XSt} {s : Shared} {env : Env} {ns : Nk} {n : Nat}
theorem Inv.inst {m news i C d} (I : Inv c g m news σ s) (h : σ.hp.get i = some (.inst C d)) : ∃ a ad, g[i]? = some a ∧ g[d]? = some ad ∧ (a, instObj C ad) ∈ news := by
 obtain ⟨a, ob, h1, h2, ad, h3, rfl⟩ := I.own i _ h; exact ⟨a, ad, h1, h3, h2⟩
theorem Inv.flds {m news d fs} (I : Inv c g m news σ s) (h : σ.hp.get d = some (.flds fs)) : ∃ ad es n, g[d]? = some ad ∧ (ad, dictOf es n) ∈ news ∧ All2 (RelF c.π g) fs es := by
 obtain ⟨a, ob, h1, h2, es, n, rfl, h3⟩ := I.own d _ h; exact ⟨a, es, n, h1, h2, h3⟩
theorem handed {x : XV} {v : Value} {π : Pi} (r : RelV π g x v) : handedIn v = true := by
 cases x with
 | none => cases r; rfl
 | bool b => cases r; rfl
 | int i => obtain ⟨_, _, rfl⟩ := r; rfl
 | str i => obtain ⟨_, _, rfl⟩ := r; rfl
 | bytes i => obtain ⟨_, _, rfl⟩ := r; rfl
 | own i => obtain ⟨_, _, rfl⟩ := r; rfl
 | sta a => cases r; rfl
 | bi k =>
  cases r
  unfold biN
  split <;> kernel_rfl
 | ty k => cases r; rfl
theorem attrX_ok (hC : SC K n) (B : Base c) (G : Globs c) (S : Stat c K) (hA : AOk A (n + 1)) {o : XV} {vo : Value} {x : Nat} {k : KV} {expr : Bool} (h : attrX tab (ev tab n) o x σ k = true) (I : Is c g σ s) (r : RelV c.π g o vo) :
  wpAny (model pg c.w) A (getAttr vo (nm x) expr) (Po c g (RelV c.π) k) E s := by
 unfold attrX at h
 split at h
 ·rename_i i
  split at h
  ·rename_i C d e1
   split at h
   ·rename_i ci e2
    split at h
    ·rename_i fs e3
     refine Is.el I ?_; intro m news I'
     obtain ⟨a, ad, p1, p2, q1⟩ := I'.inst e1
     obtain ⟨ad', es, ep, p3, q2, rf⟩ := I'.flds e3
     rw [p2] at p3; cases p3
     obtain rfl := own_of p1 r
     have hcl := S.cls C ci e2
     have IA := InstAt.of_news I'.nw q1 q2
     split at h
     ·rename_i e4
      have hat := hcl.attrs x _ e4
      split at h
      ·rename_i v e5
       have hl := RelF_look rf x
       rw [e5] at hl
       obtain ⟨u, hl, ru⟩ := hl
       exact get_own I'.fr S.kin IA (hcl.get _) hcl.dict hat.1 (by rfl) hl (handed ru) (Po.now h ru (I.tok _ (by omega)))
      ·cases h
     ·rename_i f e4
      obtain ⟨p, rest, f1, f2, f3, f4⟩ := hcl.attrs x _ e4
      refine get_prop I'.fr S.kin IA (hcl.get _) hcl.dict f1 f2 f3 f4 ?_
      refine codeAny_mono (hC h B G S hA.in1 (I.tok _ (by omega)) (.cons r .nil)) fun res s' hr => ?_
      cases res with
      | error e => exact hr.elim
      | ok f =>
       cases f with
       | ret v =>
        obtain ⟨b, σ', g', z1, z2, z3, z4⟩ := hr
        show wpAny _ A (handedOut v) _ E s'
        rw [handedOut_of (handed z3)]
        exact wpAny_pure ⟨b, σ', g', z1, z2, z3, z4⟩
       | _ => exact hr.elim
     ·cases h
    ·cases h
   ·cases h
  ·cases h
 ·cases h
theorem setAttrX_ok (S : Stat c K) {o x : XV} {vo vx : Value} {y : Nat} {k : KU} (h : setAttrX tab o y x σ k = true) (I : Is c g σ s) (r : RelV c.π g o vo) (rx : RelV c.π g x vx) :
  wpAny (model pg c.w) A (setAttr vo (nm y) vx) (Po c g RU (fun (_ : Unit) σ => k σ)) E s := by
 unfold setAttrX at h
 split at h
 ·rename_i i
  split at h
  ·rename_i C d e1
   split at h
   ·rename_i ci e2
    split at h
    ·rename_i fs e3
     refine Is.el I ?_; intro m news I'
     obtain ⟨a, ad, p1, p2, q1⟩ := I'.inst e1
     obtain ⟨ad', es, ep, p3, q2, rf⟩ := I'.flds e3
     rw [p2] at p3; cases p3
     obtain rfl := own_of p1 r
     have hcl := S.cls C ci e2
     have IA := InstAt.of_news I'.nw q1 q2
     split at h
     ·rename_i e4
      refine br_el h ?_; clear h; intro hs h
      have hat := hcl.attrs y _ e4
      have hl := RelF_look rf y
      have hsome : (getL (nm y) es).isSome = true := by
       cases hq : look y fs with
       | none => rw [hq] at hl; rw [hl]; rfl
       | some z => rw [hq] at hl; obtain ⟨u, hl, _⟩ := hl; rw [hl]; rfl
      have rp := RelF_put rf (n := y) rx (PyData.keyHash c.w.params (nm y)) (s.toks + 1)
      have hlen : (putL (nm y) (PyData.keyHash c.w.params (nm y)) (.str (nm y) (s.toks + 1)) vx es).length ≤ 1000 := by
       rw [← rp.length]
       have := put_length y x fs
       have h2 := short_lt hs
       omega
      refine set_dict I'.fr S.kin I'.nw IA rfl hcl.set hcl.over hat.2 hcl.dict hsome rfl (upd_of q2 I'.uniq) hlen fun h' F N => ?_
      exact ⟨(), _, g, h, Grow.refl g, trivial, m, _, I'.put e3 p2 q2 F N ⟨_, _, rfl, rp⟩ (by omega)⟩
     ·cases h
    ·cases h
   ·cases h
  ·cases h
 ·cases h
end
end
end Mine
set_option maxRecDepth 100000
set_option genInjectivity false
set_option genSizeOf false
namespace Mine
open PySem PySem.W PySem.Calls PyProof.Rows PySem.SeqAt
section
noncomputable def plainP (p : Arguments) : Prop := p.posonlyargs = [] ∧ p.vararg = none ∧ p.kwonlyargs = [] ∧ p.kwarg = none
theorem lookup_zip {ps : List Str} : ∀ {vs : List Value}, ps.length = vs.length → ∀ x ∈ ps, ((ps.zip vs).lookup x).isSome = true := by
 induction ps with
 | nil => intro vs _ x hx; simp at hx
 | cons p ps ih =>
  intro vs h x hx
  cases vs with
  | nil => simp at h
  | cons v vs =>
   rw [List.zip_cons_cons, List.lookup_cons]
   cases q : x == p with
   | true => rfl
   | false =>
    rcases List.mem_cons.mp hx with rfl | hx
    ·simp at q
    ·exact ih (by simpa using h) x hx
theorem fm_congr {α β : Type} {f g : α → Option β} : ∀ {l : List α}, (∀ x ∈ l, f x = g x) → l.filterMap f = l.filterMap g
 | [], _ => rfl
 | x :: l, h => by rw [List.filterMap_cons, List.filterMap_cons, h x List.mem_cons_self, fm_congr fun y hy => h y (List.mem_cons_of_mem _ hy)]
theorem filterMap_zip {ps : List Str} (hn : ps.Nodup) : ∀ {vs : List Value}, ps.length = vs.length → (ps.filterMap fun n => ((ps.zip vs).lookup n).map (n, ·)) = ps.zip vs := by
 induction ps with
 | nil => intro vs _; rfl
 | cons p ps ih =>
  intro vs h
  cases vs with
  | nil => simp at h
  | cons v vs =>
   have hn' := List.nodup_cons.mp hn
   rw [List.zip_cons_cons, List.filterMap_cons, List.lookup_cons]
   simp only [beq_self_eq_true, Option.map_some]
   congr 1
   refine Eq.trans (fm_congr fun x hx => ?_) (ih hn'.2 (vs := vs) (by simpa using h))
   have : (x == p) = false := by
    cases q : x == p with
    | false => rfl
    | true => exact absurd (eq_of_beq q ▸ hx) hn'.1
   rw [List.lookup_cons, this]
noncomputable def pnames (fd : FuncData) : List Str := fd.params.args.map fun x => x.arg
noncomputable def dfls (fd : FuncData) (o : Option (Array Value)) : List Value := ((o.getD #[]).toList).drop (((o.getD #[]).toList).length - (pnames fd).length)
noncomputable def fillIn (l : List (Str × Value)) (sl : List (Str × Value)) : List (Str × Value) := l.foldl (fun sl x => if (List.lookup x.1 sl).isNone = true then sl ++ [(x.1, x.2)] else sl) sl
theorem bind_gen {s : Shared} {fd : FuncData} {vs : List Value} {D : Option (Array Value) → Prop} {binds : List (Str × Value)} (hp : plainP fd.params) (hl : vs.length ≤ (pnames fd).length)
  (hd : ∀ (M : Model) (A : Around) (E : Value → Shared → Prop) (Q : Option (Array Value) → Shared → Prop), (∀ o, D o → Q o s) → wpAny M A (seqItems? fd.defaults) Q E s)
  (hm : ∀ o, D o → (((pnames fd).take ((pnames fd).length - (dfls fd o).length)).filter fun n => (List.lookup n ((pnames fd).zip vs)).isNone) = [])
  (hb : ∀ o, D o → ((pnames fd).filterMap fun n => (List.lookup n (fillIn (((pnames fd).drop ((pnames fd).length - (dfls fd o).length)).zip (dfls fd o)) ((pnames fd).zip vs))).map (n, ·)) = binds) :
  BindsTo s fd ⟨vs, []⟩ binds := by
 intro M A E Q hq
 obtain ⟨h1, h2, h3, h4⟩ := hp
 unfold bindArgs
 simp only [h1, h2, h3, h4, List.map_nil, List.nil_append, List.append_nil, List.forIn_nil, pure_bind]
 refine wpAny_bind (hd M A E _ fun o ho => ?_)
 have c1 : ¬ ((decide (vs.length > (fd.params.args.map fun x => x.arg).length) && (none : Option Arg).isNone) = true) := by
  have hl : vs.length ≤ (fd.params.args.map fun x => x.arg).length := hl
  rw [decide_eq_false (Nat.not_lt.mpr hl)]; exact Bool.false_ne_true
 rw [if_neg c1]
 have hm : List.filter (fun n => (List.lookup n ((fd.params.args.map fun x => x.arg).zip vs)).isNone) ((fd.params.args.map fun x => x.arg).take ((fd.params.args.map fun x => x.arg).length - (dfls fd o).length)) = [] := hm o ho
 have hb := hb o ho
 unfold dfls pnames at hm hb
 rw [hm]
 simp only [List.isEmpty_nil, Bool.not_true, Bool.false_eq_true, if_false]
 refine wpAny_bind (wpAny_forIn_list _ (fun rest b s' => fillIn rest b = fillIn _ _ ∧ s' = s) _ ?_ ?_ _ _ ⟨rfl, rfl⟩)
 ·rintro x rest b s' ⟨e, rfl⟩
  by_cases q : (List.lookup x.1 b).isNone = true
  ·rw [if_pos q]
   exact wpAny_pure ⟨by rw [← e]; show fillIn rest _ = fillIn rest (if _ then _ else _); rw [if_pos q], rfl⟩
  ·rw [if_neg q]
   exact wpAny_pure ⟨by rw [← e]; show fillIn rest _ = fillIn rest (if _ then _ else _); rw [if_neg q], rfl⟩
 ·rintro b s' ⟨e, rfl⟩
  rw [show b = _ from e, hb]
  exact wpAny_pure hq
theorem fill_all {sl : List (Str × Value)} : ∀ {l : List (Str × Value)}, (∀ x ∈ l, (List.lookup x.1 sl).isSome = true) → fillIn l sl = sl
 | [], _ => rfl
 | x :: l, h => by
  show fillIn l (if (List.lookup x.1 sl).isNone = true then _ else sl) = sl
  have q := h x List.mem_cons_self
  rw [if_neg (by rw [Option.isNone_eq_false_iff.mpr q]; exact Bool.false_ne_true)]
  exact fill_all fun y hy => h y (List.mem_cons_of_mem _ hy)
theorem no_miss {ps : List Str} {sl : List (Str × Value)} (h : ∀ x ∈ ps, (List.lookup x sl).isSome = true) : (ps.filter fun n => (List.lookup n sl).isNone) = [] := by
 rw [List.filter_eq_nil_iff]
 intro x hx
 rw [Option.isNone_eq_false_iff.mpr (h x hx)]; exact Bool.false_ne_true
theorem bind_full {s : Shared} {fd : FuncData} {vs : List Value} (hp : plainP fd.params) (hn : (fd.params.args.map (·.arg)).Nodup) (hl : (fd.params.args.map (·.arg)).length = vs.length)
  (hd : ∀ (M : Model) (A : Around) (E : Value → Shared → Prop) (Q : Option (Array Value) → Shared → Prop), (∀ o, Q o s) → wpAny M A (seqItems? fd.defaults) Q E s) :
  BindsTo s fd ⟨vs, []⟩ ((fd.params.args.map (·.arg)).zip vs) :=
 bind_gen (D := fun _ => True) hp (Nat.le_of_eq hl.symm) (fun M A E Q h => hd M A E Q fun o => h o trivial) (fun o _ => no_miss fun x hx => lookup_zip hl x (List.mem_of_mem_take hx))
  fun o _ => by
   rw [fill_all (sl := (pnames fd).zip vs) fun x hx => lookup_zip (show (pnames fd).length = vs.length from hl) x.1 (List.mem_of_mem_drop (List.of_mem_zip hx).1)]
   exact filterMap_zip hn hl
section
variable {c : Cx} {g : Ow} {σ : XSt} {s : Shared}
noncomputable def Cx.into (c : Cx) (o : Obj) (L : Addr) : Cx := { c with L := L, H := (c.L, o) :: c.H }
theorem Inv.enter {m news} (I : Inv c g m news σ s) {h : Heap} {m' : Str → Option Value} {t : Nat} {bs : List (Nat × XV)} (hns : h.Ns s.heap.objs.size m') (hk : ∀ b o, s.heap.get? b = some o → h.get? b = some o) (ht : 0 ≤ t) (hl : RelM c.π g bs m') :
  ∃ o es ep, (s.heap.get? c.L = some o ∧ o.data = .dict es ep ∧ StrKeys es ∧ ∀ name, nsFind es name = m name) ∧ Inv (c.into o s.heap.objs.size) g m' ((c.L, o) :: news) { σ with loc := bs } { s with heap := h, toks := t } := by
 obtain ⟨o, es, ep, h1, h2, h3, h4⟩ := I.fr.ns
 refine ⟨o, es, ep, ⟨h1, h2, h3, h4⟩, ?_⟩
 have hL : c.L < s.heap.objs.size := Heap.lt_size h1
 have nw : News c.h₀ s.heap.objs.size h ((c.L, o) :: news) := by
  intro p hp
  rcases List.mem_cons.mp hp with rfl | hp
  ·refine ⟨hk _ _ h1, Nat.ne_of_lt hL, ?_⟩
   cases q : c.h₀.get? c.L with
   | none => rfl
   | some o' => exact absurd (Heap.lt_size q) (Nat.not_lt.mpr I.fr.above)
  ·exact ⟨hk _ _ (I.nw p hp).1, Nat.ne_of_lt (I.sizes p hp), (I.nw p hp).2.2⟩
 refine ⟨⟨hns, fun b o' e => hk b o' (I.fr.keep b o' e), Nat.le_of_lt (Nat.lt_of_le_of_lt I.fr.above hL)⟩, nw, ?_, ?_, I.nx, I.cap, I.nodup, ?_, ?_, ?_, hl, I.cs, ht, I.gens, I.drawn, I.os⟩
 ·intro p hp
  rcases List.mem_cons.mp hp with rfl | hp
  ·exact List.mem_cons_self
  ·exact List.mem_cons_of_mem _ (I.held p hp)
 ·refine List.nodup_cons.mpr ⟨fun hm => ?_, I.uniq⟩
  obtain ⟨p, hp, e⟩ := List.mem_map.mp hm
  exact (I.nw p hp).2.1 e
 ·intro a ha p hp
  rcases List.mem_cons.mp hp with rfl | hp
  ·obtain ⟨o', ho⟩ := I.mine a ha
   exact fun e => (I.nw _ ho).2.1 e.symm
  ·exact I.apart a ha p hp
 ·intro a ha; obtain ⟨o', ho⟩ := I.mine a ha; exact ⟨o', List.mem_cons_of_mem _ ho⟩
 ·intro i ox hi
  obtain ⟨a, ob, x1, x2, x3⟩ := I.own i ox hi
  exact ⟨a, ob, x1, List.mem_cons_of_mem _ x2, x3⟩
theorem Inv.leave {o : Obj} {es : Array DictEntry} {ep : Nat} {m : Str → Option Value} {L : Addr} {loc : List (Nat × XV)} {g' : Ow} {m' : Str → Option Value} {news' : List (Addr × Obj)} {σ' : XSt} {s' : Shared}
  (hd : o.data = .dict es ep ∧ StrKeys es ∧ ∀ name, nsFind es name = m name) (ab : c.h₀.objs.size ≤ c.L) (hH : ∀ p ∈ c.H, p.1 ≠ c.L) (hl : RelM c.π g loc m) (G : Grow g g') (I : Inv (c.into o L) g' m' news' σ' s') :
  Inv c g' m (news'.filter fun p => decide (p.1 ≠ c.L)) { σ' with loc := loc } s' := by
 have hold := I.held (c.L, o) List.mem_cons_self
 refine ⟨⟨⟨o, es, ep, I.nw.get hold, hd⟩, I.fr.keep, ab⟩, ?_, ?_, ?_, I.nx, I.cap, I.nodup, ?_, ?_, ?_, hl.grow G, I.cs, I.toks, I.gens, I.drawn, I.os⟩
 ·intro p hp
  obtain ⟨hp, hne⟩ := List.mem_filter.mp hp
  exact ⟨(I.nw p hp).1, of_decide_eq_true hne, (I.nw p hp).2.2⟩
 ·intro p hp
  exact List.mem_filter.mpr ⟨I.held p (List.mem_cons_of_mem _ hp), decide_eq_true (hH p hp)⟩
 ·exact List.Nodup.sublist (List.Sublist.map _ List.filter_sublist) I.uniq
 ·exact fun a ha p hp => I.apart a ha p (List.mem_cons_of_mem _ hp)
 ·intro a ha
  obtain ⟨o', ho⟩ := I.mine a ha
  exact ⟨o', List.mem_filter.mpr ⟨ho, decide_eq_true fun e => I.apart a ha (c.L, o) List.mem_cons_self e.symm⟩⟩
 ·intro i ox hi
  obtain ⟨a, ob, x1, x2, x3⟩ := I.own i ox hi
  exact ⟨a, ob, x1, List.mem_filter.mpr ⟨x2, decide_eq_true fun e => I.apart a (List.mem_of_getElem? x1) (c.L, o) List.mem_cons_self e.symm⟩, x3⟩
theorem Inv.heldNe {m news} (I : Inv c g m news σ s) : ∀ p ∈ c.H, p.1 ≠ c.L := fun p hp => (I.nw p (I.held p hp)).2.1
end
end
end Mine
set_option maxRecDepth 100000
set_option genInjectivity false
set_option genSizeOf false
namespace Mine
open PySem PySem.W PySem.Calls PyProof.Rows PySem.SeqAt
section
mutual
inductive MT : Nk → X → Expr → Prop
 | loc {ns : Nk} {n p} : ns.lookup (nm n) = some .local → MT ns (.loc n) (.Name (nm n) p)
 | att {ns x a n p} : ME ns x a → MT ns (.att x n) (.Attribute a (nm n) p)
 | sub {ns x y a b p} : ME ns x a → ME ns y b → MT ns (.sub x y) (.Subscript a b p)
 | tup {ns ts es k p} : MTs ns ts es → MT ns (.tup ts) (.Tuple es k p)
inductive MTs : Nk → X → List Expr → Prop
 | nil {ns} : MTs ns .nil []
 | cons {ns x a xs as} : MT ns x a → MTs ns xs as → MTs ns (.cons x xs) (a :: as)
end
noncomputable def isNm (e : Expr) : Bool := match e with
 | .Name _ _ => true
 | _ => false
noncomputable def notThree (es : List Expr) : Bool := !(an (Nat.beq es.length 3) (es.all isNm))
noncomputable def okPair : Expr → Expr → Bool
 | .Tuple ts _ _, .Tuple vs _ _ => an (!(vs.all (constantsAlone 8))) (notThree ts)
 | _, _ => true
mutual
inductive MS : Nk → X → Stmt → Prop
 | ex {ns x a p} : ME ns x a → isComp a = false → MS ns (.ex x) (.Expr a p)
 | asg {ns t x b a p} : MT ns t b → ME ns x a → okPair b a = true → MS ns (.asg t x) (.Assign [b] a p)
 | aug {ns : Nk} {n op x a q p} : ns.lookup (nm n) = some .local → okName (nm n) → ME ns x a → MS ns (.aug n op x) (.AugAssign (.Name (nm n) q) op a p)
 | ift {ns x y z a b d p} : ME ns x a → MSs ns y b → MSs ns z d → MS ns (.ift x y z) (.If a b d p)
 | ret0 {ns p} : MS ns .ret0 (.Return none p)
 | ret {ns x a p} : ME ns x a → MS ns (.ret x) (.Return (some a) p)
 | rai {ns e q p} : MS ns .rai (.Raise e q p)
 | for_ {ns t x y b a d p} : MT ns t b → ME ns x a → MSs ns y d → MS ns (.for_ t x y) (.For b a d [] p)
 | whl {ns x a b p} : ME ns x a → MS ns (.whl x) (.While a b [] p)
inductive MSs : Nk → X → List Stmt → Prop
 | nil {ns} : MSs ns .nil []
 | cons {ns x a xs as} : MS ns x a → MSs ns xs as → MSs ns (.cons x xs) (a :: as)
end
noncomputable def RFl (π : Pi) (g : Ow) : Fl → Flow → Prop
 | .next, .next => True
 | .ret x, .ret v => RelV π g x v
 | _, _ => False
noncomputable def SS (K : Frag) (n : Nat) : Prop := ∀ {x : X} {st : Stmt} {σ : XSt} {k : KF}, (ev tab n).s x σ k = true → ∀ {ns : Nk}, MS ns x st → ∀ {c : Cx} {g : Ow} {s : Shared} {A : Around} {E : Value → Shared → Prop} {env : Env}, Base c → Globs c → Stat c K → EnvOk c env → env.scope.names = ns → AOk A n → Is c g σ s →
 wpAny (model pg c.w) A (exec st env) (Po c g (RFl c.π) k) E s
noncomputable def SSs (K : Frag) (n : Nat) : Prop := ∀ {x : X} {ss : List Stmt} {σ : XSt} {k : KF}, (ev tab n).ss x σ k = true → ∀ {ns : Nk}, MSs ns x ss → ∀ {c : Cx} {g : Ow} {s : Shared} {A : Around} {E : Value → Shared → Prop} {env : Env}, Base c → Globs c → Stat c K → EnvOk c env → env.scope.names = ns → AOk A n → Is c g σ s →
 wpAny (model pg c.w) A (execs ss env) (Po c g (RFl c.π) k) E s
structure FunAt (K : Frag) (h₀ : Heap) (fi : FI) (a : Addr) (o : Obj) (fd : FuncData) (body : List Stmt) : Prop where
 at_ : K.lookup a = some o
 dat : o.data = .func fd
 bod : fd.body = .stmts body
 ms : MSs fd.scope.names fi.body body
 kin : fd.scope.kind = .function
 co : fd.scope.isCoroutine = false
 gn : fd.scope.isGenerator = false
 cel : ∀ x ∈ fd.scope.names, x.2 ≠ .cell
 glb : fd.globals = mainGlobals
 blt : fd.builtins = builtinsNs
 cod : codeIn K fd.code fd.qualname = true
 bin : ∀ (π : Pi) (g : Ow) (args : List XV) (bs : List (Nat × XV)) (vs : List Value) (s : Shared), bindP fi.params args fi.dflts = some bs → RelL π g args vs → (∀ b o, h₀.get? b = some o → s.heap.get? b = some o) →
   ∃ binds, BindsTo s fd ⟨vs, []⟩ binds ∧ (∀ x ∈ binds, fd.scope.names.lookup x.1 = some .local) ∧ RelM π g bs fun x => binds.reverse.lookup x
structure FunOk (K : Frag) (h₀ : Heap) (a : Addr) (fi : FI) : Prop where
 ex : ∃ o fd body, FunAt K h₀ fi a o fd body
structure Funs (c : Cx) (K : Frag) : Prop where
 ok : ∀ a fi, tab.funs.get a = some fi → FunOk K c.h₀ a fi
theorem Base.into {c : Cx} (B : Base c) (o : Obj) (L : Addr) : Base (c.into o L) := ⟨B.sys, B.lim⟩
theorem Globs.into {c : Cx} (B : Globs c) (o : Obj) (L : Addr) : Globs (c.into o L) := ⟨B.ns⟩
theorem Stat.into {c : Cx} {K : Frag} (B : Stat c K) (o : Obj) (L : Addr) : Stat (c.into o L) K := ⟨B.kin, B.cls, B.fns⟩
theorem AOk.deeper {A : Around} {n : Nat} (h : AOk A (n + 1)) (env : Env) : AOk (A.deeper env) n :=
 ⟨h.hd, by have := h.dp; show A.depth + 1 + 2 * n < 990; omega, by have := h.un; show A.units + 3 + 20 * n < 9900; omega⟩
section
variable {K : Frag} {n : Nat}
theorem c_ok (F : ∀ {c : Cx}, Base c → Globs c → Stat c K → Funs c K) (hs : SSs K n) : SC K (n + 1) := by
 intro a args σ k h c g s A vs B G S hA I r
 change stepC tab (ev tab n) a args σ k = true at h
 unfold stepC at h
 split at h
 ·rename_i fi e1
  unfold bodyX at h
  split at h
  ·rename_i bs e2
   obtain ⟨o, fd, body, k1, k2, k3, k4, k5, k6, k7, k8, k9, k10, k11, k12⟩ := ((F B G S).ok a fi e1).ex
   refine Is.el I ?_; intro m news I'
   obtain ⟨binds, b1, b2, b3⟩ := k12 c.π g args bs vs s e2 r I'.fr.keep
   have X := S.kin.keeps I'.fr.keep
   refine codeAny_call_def hA.deep (X _ _ k1) k2 (B.lim.keeps I'.fr.keep) (codeRec_of X k11) k3 b1 k8 b2 (fun h₀ hns hk => ?_) k6 k7 k5
   obtain ⟨oL, es, ep, d1, I2⟩ := I'.enter hns hk (show 0 ≤ s.toks + binds.length by have := I'.toks; omega) b3
   refine wpAny_mono (hs h k4 (B.into oL _) (G.into oL _) (S.into oL _) (c := c.into oL s.heap.objs.size) (env := callEnv fd s.heap.objs.size a) ⟨k5, rfl, k9, k10⟩ rfl (hA.deeper _) ⟨_, _, I2⟩) (fun fl s' q => ?_) fun _ _ e => e
   obtain ⟨f, σ', g', h', G', rf, m', news', I3⟩ := q
   have I4 := I3.leave d1.2 I'.fr.above I'.heldNe I'.loc G'
   cases f with
   | next =>
    cases fl with
    | next => exact ⟨_, _, g', h', G', rfl, _, _, I4⟩
    | _ => exact rf.elim
   | ret x =>
    cases fl with
    | ret v => exact ⟨_, _, g', h', G', rf, _, _, I4⟩
    | _ => exact rf.elim
  ·cases h
 ·cases h
theorem ss_ok (h1 : SS K n) (h2 : SSs K n) : SSs K (n + 1) := by
 intro x ss σ k h ns m c g s A E env B G S Ev hn hA I
 change stepSs (ev tab n) x σ k = true at h
 cases m with
 | nil => exact wpAny_execs_nil (Po.now h trivial I)
 | cons m1 m2 =>
  rename_i x1 a1 xs as
  change (ev tab n).s x1 σ (fun f σ => match f with
   | .next => (ev tab n).ss xs σ k
   | .ret v => k (.ret v) σ) = true at h
  refine wpAny_execs_cons (Po.go (h1 h m1 B G S Ev hn hA.down I) fun fl s1 f σ1 g1 h' G1 rf I1 => ?_)
  cases f with
  | next =>
   cases fl with
   | next => exact wpAny_mono (h2 h' m2 B G S Ev hn hA.down I1) (fun _ _ q => q.up G1) fun _ _ e => e
   | _ => exact rf.elim
  | ret v =>
   cases fl with
   | ret u => exact ⟨_, σ1, g1, h', G1, rf, I1⟩
   | _ => exact rf.elim
end
end
end Mine
set_option maxRecDepth 100000
set_option genInjectivity false
set_option genSizeOf false
namespace Mine
open PySem PySem.W PySem.Calls PyProof.Rows PySem.SeqAt
open PySem.MeetsSeq (EqGives)
section
theorem attributeBase_plain {o : Expr} {name : Str} {env : Env} {w : Sem Value} (h : plainBase o) : attributeBase o name env w = w := by
 unfold attributeBase
 split
 ·rename_i id p pos
  have : (id != ("super" : Str)) = true := h
  rw [this]; rfl
 ·rfl
theorem backTo_all {ns x es} (m : MEs ns x es) (pos : Pos) (env : Env) : (backTo pos (starEach es env)).any (·.1) = false ∧ (backTo pos (starEach es env)).all (!·.1) = true := by
 have : ∀ {x es}, MEs ns x es → (starEach es env).any (·.1) = false := by
  intro x es m
  induction es generalizing x with
  | nil => rfl
  | cons a as ih =>
   cases m with
   | cons m1 m2 => rw [starEach_cons m1, List.any_cons, ih m2]; rfl
 have h1 := this m
 have h2 : (backTo pos (starEach es env)).any (·.1) = false := by
  unfold backTo
  rw [List.any_map]
  exact h1
 refine ⟨h2, ?_⟩
 rw [List.all_eq_not_any_not]
 simpa using h2
theorem met_eq {ns x es} (m : MEs ns x es) {o : Expr} {name : Str} {apos pos : Pos} {env : Env} (hb : plainBase o) (hl : es.length < 30) (hp : apos.endLine = pos.line) :
  eval (.Call (.Attribute o name apos) es [] pos) env = (do
   let ov ← eval o env
   standAt apos.atName
   let (f, first) ← holding [ov] (getMethod ov name (do return (← importBound o env).getD true))
   callWith pos f first (backTo pos (starEach es env)) (backToKw pos (keywordEach [] env))) := by
 have e : eval (.Call (.Attribute o name apos) es [] pos) env = (do
   let ov ← attributeBase o name env (eval o env)
   standAt apos.atName
   methodCall o name apos pos env ov (es.length + 0) (backTo pos (starEach es env)) (backToKw pos (keywordEach [] env))) := rfl
 rw [e, attributeBase_plain hb]
 have f : methodCallForm (es.length + 0) (backTo pos (starEach es env)) (backToKw pos (keywordEach [] env)) = true := by
  unfold methodCallForm
  rw [(backTo_all m pos env).2]
  show (true && true && decide (es.length + 0 + 0 < 30)) = true
  simpa using hl
 have mp : methodCallPos true o env apos pos = pure pos := by
  unfold methodCallPos
  rw [hp]; simp
 unfold methodCall
 simp only [f, calleeOf, mp, if_true, pure_bind]
theorem h0_of {n : Nat} {σ : XSt} {kl : KL} (h : (ev tab n).es .nil σ kl = true) : kl [] σ = true := by
 cases n with
 | zero => exact nomatch h
 | succ n => exact h
theorem keeps_plain {M : Model} {f : Value} (h : keeperOf f = pure .machine) (hp : Heap) : ∃ k, (k = Keeper.frame ∨ k = Keeper.machine ∨ k = Keeper.boundFrame) ∧ Looks M hp (keeperOf f) k :=
 ⟨.machine, .inr (.inl rfl), Looks.of_pure h⟩
theorem in1_under {A : Around} {n : Nat} (h : AOk A (n + 1)) (C : Addr) (pos : List Value) : AOk (A.under (.builtin "type.__call__" ⟨.ref C :: pos, []⟩)) n := by
 have hw : (Code.builtin "type.__call__" ⟨.ref C :: pos, []⟩).weight = 1 := by
  have hg : (Code.builtin "type.__call__" ⟨.ref C :: pos, []⟩).isGuard = false := by show guardIds.contains "type.__call__" = false; decide +kernel
  unfold Code.weight
  rw [hg]
  rfl
 have hu : (Code.builtin "type.__call__" ⟨.ref C :: pos, []⟩).cUnits ≤ 2 := by
  exact Nat.le_of_ble_eq_true rfl
 refine ⟨h.hd, ?_, ?_⟩
 ·have := h.dp
  show A.depth + (Code.builtin "type.__call__" ⟨.ref C :: pos, []⟩).weight + 2 * n < 990
  rw [hw]; omega
 ·have := h.un
  show A.units + (Code.builtin "type.__call__" ⟨.ref C :: pos, []⟩).cUnits + 20 * n < 9900
  omega
section
variable {c : Cx} {K : Frag} {A : Around} {E : Value → Shared → Prop} {g : Ow} {σ : XSt} {s : Shared} {env : Env} {ns : Nk} {n : Nat}
theorem callWith_ok (hs : SEs K n) (B : Base c) (G : Globs c) (S : Stat c K) (Ev : EnvOk c env) (hn : env.scope.names = ns) (hA : AOk A n) (I : Is c g σ s) {x : X} {es : List Expr} (m : MEs ns x es) {kl : KL} (h : (ev tab n).es x σ kl = true) {f : Value} {first : List Value} {pos : Pos} {k : KV}
  (hcall : ∀ vs xs σ' g' s', kl xs σ' = true → Grow g g' → RelL c.π g' xs vs → Is c g' σ' s' →
   (∃ kk, (kk = Keeper.frame ∨ kk = Keeper.machine ∨ kk = Keeper.boundFrame) ∧ Looks (model pg c.w) s'.heap (keeperOf f) kk) ∧ wpAny (model pg c.w) A (call f (first ++ vs)) (Po c g' (RelV c.π) k) E s') :
  wpAny (model pg c.w) A (callWith pos f first (backTo pos (starEach es env)) (backToKw pos (keywordEach [] env))) (Po c g (RelV c.π) k) E s := by
 refine callWith_of (P := fun hp => ∃ kk, (kk = Keeper.frame ∨ kk = Keeper.machine ∨ kk = Keeper.boundFrame) ∧ Looks (model pg c.w) hp (keeperOf f) kk) ?_ (fun _ q => q) ?_
 ·rw [(backTo_all m pos env).1]; rfl
 ·have go : wpAny (model pg c.w) A (spliced (backTo pos (starEach es env))) (fun vs s' => (∃ kk, (kk = Keeper.frame ∨ kk = Keeper.machine ∨ kk = Keeper.boundFrame) ∧ Looks (model pg c.w) s'.heap (keeperOf f) kk) ∧ wpAny (model pg c.w) A (call f (first ++ vs)) (Po c g (RelV c.π) k) E s') E s := by
   refine wpAny_mono (hs h m B G S Ev hn hA I) (fun vs s' q => ?_) fun _ _ e => e
   refine Po.elim q fun xs σ' g' h' G' r I' => ?_
   have z := hcall vs xs σ' g' s' h' G' r I'
   exact ⟨z.1, wpAny_mono z.2 (fun _ _ q => q.up G') fun _ _ e => e⟩
  cases m with
  | nil =>
   exact evalArgs_nil3 (hcall [] [] σ g s (h0_of h) (Grow.refl g) .nil I)
  | cons m1 m2 =>
   rw [starEach_cons m1] at go ⊢
   exact evalArgs_plain go
end
end
end Mine
set_option maxRecDepth 100000
set_option genInjectivity false
set_option genSizeOf false
namespace Mine
open PySem PySem.W PySem.Calls PyProof.Rows PySem.SeqAt PyProof.V PySem.Spec
open PySem.MeetsSeq (EqGives)
section
section
variable {c : Cx} {K : Frag} {A : Around} {E : Value → Shared → Prop} {g : Ow} {σ : XSt} {s : Shared} {env : Env} {ns : Nk} {n : Nat}
theorem callF_ok (hC : SC K n) (B : Base c) (G : Globs c) (S : Stat c K) (hA : AOk A n) {a : Addr} {xs : List XV} {vs : List Value} {k : KV} (h : (ev tab n).c a xs σ k = true) (I : Is c g σ s) (r : RelL c.π g xs vs) :
  wpAny (model pg c.w) A (call (.ref a) vs) (Po c g (RelV c.π) k) E s :=
 wpAny_call (codeAny_mono (hC h B G S hA I r) fun res s' hr => by
  cases res with
  | error e => exact hr.elim
  | ok f => cases f <;> exact hr)
theorem newX_ok (hC : SC K n) (B : Base c) (G : Globs c) (S : Stat c K) (hA : AOk A (n + 1)) {C : Addr} {ci : CI} {xs : List XV} {vs : List Value} {k : KV} (hc : tab.clss.get C = some ci) (h : newX (ev tab n) C ci xs σ k = true) (I : Is c g σ s) (r : RelL c.π g xs vs) :
  wpAny (model pg c.w) A (call (.ref C) vs) (Po c g (RelV c.π) k) E s := by
 have cl := S.cls C ci hc
 refine Is.el I ?_; intro m news I'
 refine allocX_el (show allocX (.flds []) σ (fun d σ => allocX (.inst C d) σ fun i σ => (ev tab n).c ci.init (.own i :: xs) σ fun v σ => br (isNone v) (k (.own i) σ) false) = true from h) ?_; intro h1 h2
 refine allocX_el h2 ?_; intro h3 h4
 refine call_cls I'.fr S.kin I'.nw cl.makes cl.init cl.initF fun x dx h' F N l1 l2 => ?_
 have N1 : News c.h₀ c.L h' ((dx, dictOf [] 0) :: news) := fun p hp => N p (List.mem_cons_of_mem _ hp)
 have I1 := I'.made (o := .flds []) h1 F N1 l1 ⟨[], 0, rfl, .nil⟩ I'.toks
 have I2 := I1.made h3 F N (a := x) (ob := instObj C dx) (t := s.toks) (o := .inst C σ.nx) (fun p hp => by
  rcases List.mem_cons.mp hp with rfl | hp
  ·exact l2
  ·exact Nat.lt_trans (l1 p hp) l2) ⟨dx, by rw [I'.nx]; simp, rfl⟩ I'.toks
 have gx : (g ++ [dx] ++ [x])[σ.nx + 1]? = some x := by rw [I'.nx]; simp
 have Gr : Grow g (g ++ [dx] ++ [x]) := (Grow.snoc g dx).trans (Grow.snoc _ x)
 refine codeAny_mono (hC (show (ev tab n).c ci.init (.own (σ.nx + 1) :: xs) _ _ = true from h4) B G S (in1_under hA C vs) ⟨m, _, I2⟩ (.cons ⟨x, gx, rfl⟩ (RelL.grow Gr r))) fun res s' hr => ?_
 cases res with
 | error e => exact hr.elim
 | ok f =>
  cases f with
  | ret v =>
   obtain ⟨b, σ', g', z1, z2, z3, z4⟩ := hr
   refine br_el z1 ?_; intro q1 q2
   exact ⟨isNone_none q1 z3, .own (σ.nx + 1), σ', g', q2, Gr.trans z2, ⟨x, z2.get gx, rfl⟩, z4⟩
  | _ => exact hr.elim
theorem rmV_at {va : Value} : ∀ {vs ws : List Value}, rmV va vs = some ws → ∃ (j : Nat) (hj : j < vs.length), fe vs[j] va = true ∧ (∀ i (hi : i < vs.length), i < j → fe vs[i] va = false) ∧ ws = vs.eraseIdx j
 | [], _, h => nomatch h
 | y :: r, ws, h => by
  change (match fe y va with | true => some r | false => (rmV va r).map (y :: ·)) = some ws at h
  cases q : fe y va with
  | true =>
   rw [q] at h
   cases h
   exact ⟨0, by simp, q, fun i _ hi => absurd hi (Nat.not_lt_zero _), rfl⟩
  | false =>
   rw [q] at h
   obtain ⟨ws', h1, rfl⟩ := Option.map_eq_some_iff.mp h
   obtain ⟨j, hj, a1, a2, a3⟩ := rmV_at h1
   refine ⟨j + 1, by simpa using hj, by simpa using a1, fun i hi hlt => ?_, by rw [a3]; rfl⟩
   cases i with
   | zero => exact q
   | succ i => simpa using a2 i (by simpa using hi) (by omega)
noncomputable def CalV (c : Cx) (g : Ow) (f : Cal) (o : XV) (vf : Value × List Value) : Prop := ∃ i a, o = .own i ∧ g[i]? = some a ∧ vf.2 = [.ref a] ∧ vf.1 = match f with
 | .fn b => .ref b
 | .app => .builtin "list.append"
 | .rem => .builtin "list.remove"
 | .pop => .builtin "dict.pop"
theorem callM_ok (hC : SC K n) (hr : SRm n) (B : Base c) (G : Globs c) (S : Stat c K) (hA : AOk A n) {f : Cal} {o : XV} {vf : Value × List Value} {xs : List XV} {vs : List Value} {k : KV} (h : callM (ev tab n) f o xs σ k = true) (I : Is c g σ s) (hf : CalV c g f o vf) (r : RelL c.π g xs vs) :
  wpAny (model pg c.w) A (call vf.1 (vf.2 ++ vs)) (Po c g (RelV c.π) k) E s := by
 obtain ⟨v1, v2⟩ := vf
 obtain ⟨i, a, rfl, p1, e2, e1⟩ := hf
 dsimp only at e1 e2 ⊢
 subst e1 e2
 cases f with
 | fn b => exact callF_ok hC B G S hA (show (ev tab n).c b (.own i :: xs) σ k = true from h) I (.cons ⟨a, p1, rfl⟩ r)
 | app =>
  unfold callM at h
  dsimp only at h
  split at h
  ·rename_i i' x he
   cases he
   replace r := r.uncons
   obtain ⟨_, _, rfl, r1, r2⟩ := r
   obtain rfl := r2.unnil
   rename_i v
   split at h
   ·rename_i ys e1
    refine br_el h ?_; clear h; intro hs h
    refine Is.el I ?_; intro m news I'
    refine I'.listE e1 ?_; intro a1 its n1 p2 q1 r3
    rw [p1] at p2; cases p2
    have hl := short_lt hs
    rw [r3.length, Array.length_toList] at hl
    refine append_at (I'.nw.get q1) (fun h' hsb ho => ?_) (by rw [sizeLine_eq]; omega)
    exact ⟨.none, _, g, h, Grow.refl g, rfl, m, _, I'.stored e1 p1 q1 hsb ho ⟨_, _, rfl, by rw [Array.toList_push]; exact r3.append (.cons r1 .nil)⟩ I'.toks⟩
   ·cases h
  ·cases h
 | rem =>
  unfold callM at h
  dsimp only at h
  split at h
  ·rename_i i' x he
   cases he
   replace r := r.uncons
   obtain ⟨_, _, rfl, r1, r2⟩ := r
   obtain rfl := r2.unnil
   rename_i v
   split at h
   ·rename_i ys e1
    refine br_el h ?_; clear h; intro hs h
    refine Is.el I ?_; intro m news I'
    refine I'.listE e1 ?_; intro a1 its n1 p2 q1 r3
    rw [p1] at p2; cases p2
    have hl := short_lt hs
    rw [r3.length, Array.length_toList] at hl
    obtain ⟨oo, σ', h', C, q, p⟩ := hr h I r1 r3
    cases oo with
    | none => exact nomatch h'
    | some zs =>
     obtain ⟨ws, w1, w2⟩ := q zs rfl
     obtain ⟨j, hj, b1, b2, b3⟩ := rmV_at w1
     have hj' : j < its.size := by simpa using hj
     refine call_meets PySem.F.slot_list_remove ⟨_, I'.nw.get q1, rfl⟩ PySem.F.entry_list_remove (PySem.F.args_list_remove_2 _ _)
      (PySem.MeetsSeq.list_remove a its n1 v (fe · v) (fun y hy => p y (by simpa using hy)) j hj' (by simpa using b1) (fun i hi hlt => by have z := b2 i (by simpa using hi) hlt; rw [Array.getElem_toList] at z; exact z) (by rw [sizeLine_eq]; omega)) ⟨I'.nw.get q1, ?_⟩
     have ho := I'.nw.get q1
     have I3 := (I'.parts C).stored (by rw [C.1]; exact e1) p1 q1 (Heap.SameBut.update ..) (Heap.get?_update_self _ ho rfl) (o := .list zs) (ob' := Obj.mapSeq (fun xs => xs.eraseIdxIfInBounds j) (listOf its n1)) (t := s.toks) ?_ I'.toks
     ·exact ⟨.none, _, g, h', Grow.refl g, rfl, m, _, I3⟩
     ·refine ⟨its.eraseIdxIfInBounds j, _, rfl, ?_⟩
      have e4 : (its.eraseIdxIfInBounds j).toList = its.toList.eraseIdx j := by
       unfold Array.eraseIdxIfInBounds
       rw [dif_pos hj']; simp
      rw [e4, ← b3]; exact w2
   ·cases h
  ·cases h
 | pop =>
  unfold callM at h
  dsimp only at h
  split at h
  ·rename_i i' x he
   cases he
   replace r := r.uncons
   obtain ⟨_, _, rfl, r1, r2⟩ := r
   obtain rfl := r2.unnil
   rename_i v
   split at h
   ·rename_i es e1
    refine br_el h ?_; clear h; intro hs h
    split at h
    ·rename_i y e3
     refine Is.el I ?_; intro m news I'
     refine I'.idictE e1 ?_; intro a1 ob kvs p2 q1 D r3
     rw [p1] at p2; cases p2
     obtain ⟨t, _, rfl⟩ := r1
     obtain ⟨u, hu, ru⟩ := (RelI_look r3 x).1 y e3
     have hl := short_lt hs
     rw [r3.length] at hl
     refine call_meetsIn PySem.F.slot_dict_pop D.typeIs PySem.F.entry_dict_pop (PySem.F.args_dict_pop_2 _ _) (meets_dict_pop_there (intKind pg c.w) a (intKind_is pg c.w _ t) [] (.inl rfl) rfl) ⟨kvs, u, D, by rw [sizeLine_eq]; omega, hu, fun h' hmm hsb => ?_⟩
     obtain ⟨o', ho', hd'⟩ := Heap.dictOf_iff.mp hmm
     have hn : (kvs.map (·.1)).Nodup := by obtain ⟨_, _, _, _, _, _, _, _, hn⟩ := D; exact hn
     exact ⟨y, _, g, h, Grow.refl g, ru, m, _, I'.stored e1 p1 q1 hsb ho' ⟨_, hd', RelI.del r3 hn x⟩ (by omega)⟩
    ·cases h
   ·cases h
  ·cases h
end
end
end Mine
set_option maxRecDepth 100000
set_option genInjectivity false
set_option genSizeOf false
namespace Mine
open PySem PySem.W PySem.Calls PyProof.Rows
section
theorem ba_len : Slot "bytearray" "__len__" "bytearray.__len__" :=
 .of (owner := "bytearray") (n := "__len__") (by rw [typeLookup_type, builtinLookup_eq_fast]; kernel_rfl) (by decide +kernel) (by decide +kernel) (by decide +kernel)
  (by first | exact .inl (by decide +kernel) | exact .inr (by decide +kernel)) (by rw [isSubtype_type]; kernel_rfl)
theorem ba_entry_len : entryFor table "bytearray.__len__" = some Builtin.«bytearray.__len__» := by first | exact entryFor_of_fast (by kernel_rfl) | exact entryFor_of_tree (by kernel_rfl)
theorem ba_args_len (a : Value) : argsOk "bytearray.__len__" ⟨[a], []⟩ := by unfold argsOk; kernel_rfl
theorem bm_bytes : typeLookup (.type "bytes") "__bytes__" = pure (some (.builtin "bytes.__bytes__")) := by rw [typeLookup_type, builtinLookup_eq_fast]; kernel_rfl
theorem bm_r_bytes : typeLookup (.type "range") "__bytes__" = pure none := by rw [typeLookup_type, builtinLookup_eq_fast]; kernel_rfl
theorem bm_r_index : typeLookup (.type "range") "__index__" = pure none := by rw [typeLookup_type, builtinLookup_eq_fast]; kernel_rfl
theorem bm_r_buffer : typeLookup (.type "range") "__buffer__" = pure none := by rw [typeLookup_type, builtinLookup_eq_fast]; kernel_rfl
theorem bm_r_split : splitId "range.__len__" = some ("range", "__len__") := by decide +kernel
theorem bm_r_sub : isSubtype (.type "range") (.type "range") = pure true := by rw [isSubtype_type]; kernel_rfl
noncomputable def rangeInts' (a : Int) (n : Nat) : List Int := (List.range n).map fun i => a + Int.ofNat i
section
variable {w : World} {A : Around} {E : Value → Shared → Prop} {s : Shared} {R : Result → Shared → Prop} {prog : Program} {M : Model}
theorem len_barr {a : Addr} {Q : Value → Shared → Prop} (h : s.heap.get? a = some barrO) (hq : Q (.int 0 (s.toks + 1)) { s with toks := s.toks + 1 + 1 }) : wpAny (model prog w) A (call (.builtin "len") [.ref a]) Q E s := by
 have hT : s.TypeIs (.ref a) "bytearray" := ⟨_, h, rfl⟩
 refine call_len_slot (n := 0) hT ba_len (fun Q' hq' => wpAny_call_entry ba_len hT ba_entry_len ?_ (ba_args_len _)) (by decide) (by decide) hq
 unfold Builtin.«bytearray.__len__»
 refine wpAny_bind (m := slotArgs "__len__" 0 ⟨[.ref a], []⟩) (wpAny_of_eq (a := (.ref a, [])) rfl ?_)
 refine wpAny_bind (m := Builtin.Bytes.payload (.ref a)) (wpAny_bind (wpAny_bind (wpAny_load h (wpAny_pure (wpAny_pure ?_)))))
 exact wpAny_bind (wpAny_mkInt (wpAny_pure ⟨_, rfl, hq'⟩))
theorem bb_new {b : Array UInt8} {t : Tok} {Q : Value → Shared → Prop} (hq : Q (.bytes b t) s) : codeAny (model prog w) A (.call (.builtin "bytes.__new__") ⟨[.type "bytes", .bytes b t], []⟩) (wants Q E) s := by
 refine codeAny_of_tree ?_
 show wpAny _ A.in1 (do checkBuiltinCall "bytes.__new__" ⟨[.type "bytes", .bytes b t], []⟩; again (.builtin "bytes.__new__" ⟨[.type "bytes", .bytes b t], []⟩)) _ _ s
 refine wpAny_bind (wpAny_of_eq (F.bm_newCall _) (wpAny_pure ⟨plainId_quiet F.bm_plain _, codeAny_builtin F.bm_entry ?_⟩))
 rw [Around.under_plainId F.bm_plain _]
 have hT : s.TypeIs (.bytes b t) "bytes" := PySem.W.typeIs_bytes _ _ _
 unfold Builtin.«bytes.__new__»
 refine wpAny_bind (wpAny_of_eq (a := true) rfl ?_)
 refine bm_if_false rfl ?_
 refine wpAny_bind (wpAny_of_eq F.bm_sub ?_)
 refine bm_if_false rfl ?_
 refine wpAny_bind (wpAny_of_eq (F.bm_bind _) ?_)
 refine wpAny_bind (wpAny_of_eq (a := ()) rfl ?_)
 refine wpAny_bind (wpAny_of_eq (a := ()) rfl ?_)
 refine bm_if_false rfl ?_
 refine wpAny_bind (wpAny_specialOf hT bm_bytes ?_)
 refine wpAny_bind (wpAny_rule ?_)
 refine wpAny_bind (wpAny_typeOf hT ?_)
 refine bm_if_true (by decide) ?_
 exact wpAny_pure hq
theorem bytes_bytes {b : Array UInt8} {t : Tok} {Q : Value → Shared → Prop} (hq : Q (.bytes b t) s) : wpAny (model prog w) A (call (.type "bytes") [.bytes b t]) Q E s := by
 refine callType_codes (Q₁ := fun obj s₁ => s₁.TypeIs obj "bytes" ∧ Q obj s₁) F.bm_called (F.bm_typeCall _) F.entry_object_init (bb_new ⟨PySem.W.typeIs_bytes _ _ _, hq⟩) fun obj s₁ h₁ => ?_
 exact ⟨h₁.1, F.args_object_init_2 obj _, object_init_meets F.bm_called.init.lookup F.bm_called.made (by decide) prog w A.in1 _ s₁ ⟨h₁.1, rfl, h₁.2⟩⟩
theorem bmr_loop {l I S : Addr} {a : Int} {n : Nat} (hh : A.handled = none) (h0 : 0 ≤ a) (h1 : a + (n : Int) ≤ 256) (hIS : I ≠ S) :
  ∀ (k i : Nat) (s : Shared), n - i = k → i ≤ n → IsRangeIter s.heap I (a + (i : Nat) * 1) ((n : Int) - (i : Nat)) 1 → s.heap.get? S = some { cls := .type "bytearray", data := .bytearray (byteArr ((rangeInts' a n).take i)) } →
   (∀ h' t k', (∀ b o, b ≠ I → b ≠ S → s.heap.get? b = some o → h'.get? b = some o) → R (.ok (.ret (.bytes (byteArr (rangeInts' a n)) t))) { s with heap := h', toks := k' }) →
   codeAny (model prog w) A (.builtin "bytes.__new__.loop" ⟨[.type "bytes", .ref I, .ref S], []⟩) R s := by
 have hlen : (rangeInts' a n).length = n := by simp [rangeInts']
 intro k
 induction k with
 | zero =>
  intro i s hk hle hit hS hR
  have hin : i = n := by omega
  subst hin
  refine codeAny_builtin F.bm_entry_loop ?_
  rw [Around.under_plainId F.bm_plain_loop _]
  show wpAny _ A.in1 (pyNext (.ref I) >>= _) _ _ s
  refine wpAny_bind (wpAny_pyNext_range_end hh hit (by omega) fun h' he => ?_)
  have hS' : h'.get? S = some { cls := .type "bytearray", data := .bytearray (byteArr ((rangeInts' a i).take i)) } := he S _ (Ne.symm hIS) hS
  refine wpAny_bind ?_
  unfold Builtin.Bytes.payload Builtin.Bytes.payload?
  refine wpAny_bind (wpAny_bind (wpAny_load hS' ?_))
  refine wpAny_pure (wpAny_pure ?_)
  rw [List.take_of_length_le (by rw [hlen]; exact Nat.le_refl _)]
  refine wpAny_bind (wpAny_mkBytes ?_ (by rw [byteArr_size, hlen, sizeLine_eq]; omega))
  show wpAny _ _ (if (Value.type "bytes" == Value.type "bytes") = true then _ else _) _ _ _
  refine bm_if_true (by decide) ?_
  first
   | exact wpAny_pure (hR h' _ _ fun b o hb _ e => he b o hb e)
   | exact wpAny_bind (wpAny_pure (wpAny_pure (hR h' _ _ fun b o hb _ e => he b o hb e)))
 | succ k ih =>
  intro i s hk hle hit hS hR
  have hlt : i < n := by omega
  refine codeAny_builtin F.bm_entry_loop ?_
  rw [Around.under_plainId F.bm_plain_loop _]
  show wpAny _ A.in1 (pyNext (.ref I) >>= _) _ _ s
  refine wpAny_bind (wpAny_pyNext_range_item hit (by omega) fun h' hit' hs => ?_)
  have hit2 : IsRangeIter h' I (a + ((i + 1 : Nat) : Nat) * 1) ((n : Int) - ((i + 1 : Nat) : Nat)) 1 := by
   rw [show a + (((i + 1 : Nat) : Nat) : Int) * 1 = a + (i : Nat) * 1 + 1 by push_cast; omega, show ((n : Int) - (((i + 1 : Nat) : Nat) : Int)) = (n : Int) - (i : Nat) - 1 by push_cast; omega]; exact hit'
  have hS' : h'.get? S = some { cls := .type "bytearray", data := .bytearray (byteArr ((rangeInts' a n).take i)) } := (hs.2 S (Ne.symm hIS)).trans hS
  have e1 : a + (i : Nat) * 1 = a + Int.ofNat i := by rw [Int.mul_one]; rfl
  have hn : (rangeInts' a n)[i]? = some (a + Int.ofNat i) := by simp [rangeInts', hlt]
  rw [e1]
  refine wpAny_bind (wpAny_holding (wpAny_of_eq (rfl : asIndex (.int (a + Int.ofNat i) s.toks) = pure (a + Int.ofNat i)) ?_))
  refine wpAny_bind (wpAny_letGo ?_)
  have b1 : ¬ (a + Int.ofNat i < 0) := by have : 0 ≤ Int.ofNat i := Int.natCast_nonneg i; omega
  have b2 : ¬ (a + Int.ofNat i ≥ 256) := by have : Int.ofNat i < (n : Int) := Int.ofNat_lt.mpr hlt; omega
  refine bm_if_false (by simp only [Bool.or_eq_false_iff, decide_eq_false_iff_not]; exact ⟨b1, b2⟩) ?_
  refine wpAny_bind ?_
  show wpAny _ _ (updateBytearray S (·.push (a + Int.ofNat i).toNat.toUInt8)) _ _ _
  unfold updateBytearray
  refine wpAny_bind (wpAny_load hS' ?_)
  show wpAny _ _ (update S (Obj.mapBytearray (·.push (a + Int.ofNat i).toNat.toUInt8)) >>= fun _ => lookBehind S) _ _ _
  refine wpAny_bind (wpAny_update hS' ?_)
  have hS₂ : (h'.update S (Obj.mapBytearray (·.push (a + Int.ofNat i).toNat.toUInt8))).get? S = some { cls := .type "bytearray", data := .bytearray (byteArr ((rangeInts' a n).take (i + 1))) } := by
   rw [byteArr_take hn]
   exact Heap.get?_update_self (Obj.mapBytearray (·.push (a + Int.ofNat i).toNat.toUInt8)) hS' rfl
  refine wpAny_lookBehind hS₂ ?_ ?_
  ·show (if (byteArr ((rangeInts' a n).take (i + 1))).size > sizeLine then some "bytearray:memory" else none) = none
   rw [if_neg]
   rw [byteArr_size, List.length_take, sizeLine_eq]
   omega
  ·refine wpAny_pure ⟨plainId_quiet F.bm_plain_loop _, ih (i + 1) { s with heap := h'.update S (Obj.mapBytearray (·.push (a + Int.ofNat i).toNat.toUInt8)), toks := s.toks + 1 } (by omega) hlt ?_ hS₂ fun h3 t' k' hk3 => ?_⟩
   ·show (h'.update S _).get? I = some _
    rw [Heap.get?_update_other _ _ (Ne.symm hIS)]; exact hit2
   ·exact hR h3 t' k' fun b o hbI hbS e => hk3 b o hbI hbS ((Heap.get?_update_other _ _ (Ne.symm hbS)).trans (hs.extBut b o hbI e))
theorem bmr_new {l : Addr} {a b : Int} {t u v : Tok} {Q : Value → Shared → Prop} (hh : A.handled = none) (hl : IsRange s.heap l a b 1 t u v) (h0 : 0 ≤ a ∧ a ≤ 256) (h1 : 0 ≤ b ∧ b ≤ 256)
  (hQ : ∀ h' t k, (∀ b o, s.heap.get? b = some o → h'.get? b = some o) → Q (.bytes (byteArr (rangeInts' a (b - a).toNat)) t) { s with heap := h', toks := k }) :
  codeAny (model prog w) A (.call (.builtin "bytes.__new__") ⟨[.type "bytes", .ref l], []⟩) (wants Q E) s := by
 refine codeAny_of_tree ?_
 show wpAny _ A.in1 (do checkBuiltinCall "bytes.__new__" ⟨[.type "bytes", .ref l], []⟩; again (.builtin "bytes.__new__" ⟨[.type "bytes", .ref l], []⟩)) _ _ s
 refine wpAny_bind (wpAny_of_eq (F.bm_newCall _) (wpAny_pure ⟨plainId_quiet F.bm_plain _, codeAny_builtin F.bm_entry ?_⟩))
 rw [Around.under_plainId F.bm_plain _]
 have hT : s.TypeIs (.ref l) "range" := ⟨_, hl, rfl⟩
 have hol : s.heap.get? l = some _ := hl
 have rs : Builtin.Range.rangeSize a b 1 = (((b - a).toNat : Nat) : Int) := by
  rw [rangeSize_one]; split <;> omega
 have hsm : Builtin.Range.small a b 1 = true := small_one (by omega) (by omega) (by omega) (by omega)
 unfold Builtin.«bytes.__new__»
 refine wpAny_bind (wpAny_of_eq (a := true) rfl ?_)
 refine bm_if_false rfl ?_
 refine wpAny_bind (wpAny_of_eq F.bm_sub ?_)
 refine bm_if_false rfl ?_
 refine wpAny_bind (wpAny_of_eq (F.bm_bind _) ?_)
 refine wpAny_bind (wpAny_of_eq (a := ()) rfl ?_)
 refine wpAny_bind (wpAny_of_eq (a := ()) rfl ?_)
 refine bm_if_false rfl ?_
 refine wpAny_bind (wpAny_specialOf hT bm_r_bytes ?_)
 refine wpAny_bind (wpAny_bind ?_)
 show wpAny _ _ (load l >>= _) _ _ _
 refine wpAny_bind (wpAny_load hol ?_)
 refine wpAny_pure (wpAny_pure ?_)
 refine bm_if_false rfl ?_
 refine wpAny_bind (wpAny_specialOf hT bm_r_index ?_)
 refine bm_if_true rfl ?_
 first
  | show wpAny _ _ (Builtin.Bytes.buffer? "bytes.__new__" (.ref l) true >>= _) _ _ _
  | (refine wpAny_bind ?_; show wpAny _ _ (Builtin.Bytes.buffer? "bytes.__new__" (.ref l) true >>= _) _ _ _)
 refine wpAny_bind ?_
 unfold Builtin.Bytes.buffer?
 refine wpAny_bind (wpAny_specialOf hT bm_r_buffer ?_)
 refine wpAny_bind (wpAny_specialOf hT bm_r_buffer ?_)
 refine wpAny_pure ?_
 refine wpAny_bind (wpAny_tryCatch (wpAny_pyIter_range hl hsm ?_))
 rw [rs]
 generalize hn : (b - a).toNat = n at *
 have hl₁ : IsRange (s.heap.push { cls := .type "range_iterator", data := .fields #[rawInt a, rawInt (n : Int), rawInt 1] }) l a b 1 t u v := Heap.get?_push_of_some _ hl
 have hT₁ : ({ s with heap := s.heap.push { cls := .type "range_iterator", data := .fields #[rawInt a, rawInt (n : Int), rawInt 1] } } : Shared).TypeIs (.ref l) "range" := ⟨_, hl₁, rfl⟩
 refine wpAny_bind (wpAny_holding ?_)
 unfold Builtin.Bytes.lengthHint
 refine wpAny_bind (wpAny_specialOf hT₁ F.slot_range_len.lookup ?_)
 dsimp only
 rw [bm_r_split]
 dsimp only
 refine wpAny_bind (wpAny_isInstance hT₁ bm_r_sub ?_)
 refine bm_if_false rfl ?_
 refine bm_if_false (by decide +kernel) ?_
 refine bm_if_true rfl ?_
 refine wpAny_bind (wpAny_rule ?_)
 have hn256 : n ≤ 256 := by omega
 refine wpAny_bind (wpAny_attempt (call_len_range hl₁ rs (by omega) ?_))
 dsimp only
 refine wpAny_bind (wpAny_of_eq (rfl : asInt? (.int (n : Int) _) = pure (some (n : Int))) ?_)
 dsimp only
 refine bm_if_false (by show (decide _) = false; rw [decide_eq_false_iff_not, Int.toNat_natCast, sizeLine_eq]; omega) ?_
 refine wpAny_pure ?_
 refine wpAny_bind ?_
 unfold Builtin.Bytes.newBytearray
 refine wpAny_newObj_type ?_ (Nat.zero_le _)
 have hsz : (s.heap.push { cls := .type "range_iterator", data := .fields #[rawInt a, rawInt (n : Int), rawInt 1] }).objs.size = s.heap.objs.size + 1 := Heap.size_push _ _
 have hI : IsRangeIter ((s.heap.push { cls := .type "range_iterator", data := .fields #[rawInt a, rawInt (n : Int), rawInt 1] }).push { cls := .type "bytearray", data := .bytearray #[] }) s.heap.objs.size (a + ((0 : Nat) : Int) * 1) ((n : Int) - ((0 : Nat) : Int)) 1 := by
  rw [show a + ((0 : Nat) : Int) * 1 = a by simp, show ((n : Int) - ((0 : Nat) : Int)) = (n : Int) by simp]
  exact Heap.get?_push_of_some _ (Heap.get?_push_size _ rfl)
 have main := fun t0 => bmr_loop (prog := prog) (w := w) (A := A) (R := wants Q E) (l := l) (I := s.heap.objs.size) (S := (s.heap.push { cls := .type "range_iterator", data := .fields #[rawInt a, rawInt (n : Int), rawInt 1] }).objs.size) (a := a) (n := n) hh h0.1 (by omega) (by rw [hsz]; exact Nat.ne_of_lt (Nat.lt_succ_self _))
  n 0 { s with heap := (s.heap.push { cls := .type "range_iterator", data := .fields #[rawInt a, rawInt (n : Int), rawInt 1] }).push { cls := .type "bytearray", data := .bytearray #[] }, toks := t0 } rfl (Nat.zero_le _) hI (Heap.get?_push_size _ rfl)
  fun h' t k hk => hQ h' t k fun b o e => hk b o (Nat.ne_of_lt (Heap.lt_size e)) (by rw [hsz]; exact Nat.ne_of_lt (Nat.lt_succ_of_lt (Heap.lt_size e))) (Heap.get?_push_of_some _ (Heap.get?_push_of_some _ e))
 first
  | exact wpAny_pure ⟨plainId_quiet F.bm_plain_loop _, main _⟩
  | exact wpAny_pure (wpAny_pure ⟨plainId_quiet F.bm_plain_loop _, main _⟩)
theorem rangeB_is {a b : Int} (h : 0 ≤ a) : (⟨(List.range (b - a).toNat).map fun i => UInt8.ofNat (a.toNat + i)⟩ : Array UInt8) = byteArr (rangeInts' a (b - a).toNat) := by
 unfold byteArr rangeInts'
 rw [List.map_map]
 congr 1
 refine List.map_congr_left fun i _ => ?_
 show UInt8.ofNat (a.toNat + i) = UInt8.ofNat (a + Int.ofNat i).toNat
 congr 1
 have : (a + Int.ofNat i).toNat = a.toNat + i := by
  show (a + (i : Int)).toNat = _
  omega
 exact this.symm
theorem bytes_range {a : Addr} {x y : Int} {t u v : Tok} {Q : Value → Shared → Prop} (hh : A.handled = none) (hr : s.heap.get? a = some (rngO (.int x t) (.int y u) v)) (h0 : 0 ≤ x ∧ x ≤ 256) (h1 : 0 ≤ y ∧ y ≤ 256)
  (hQ : ∀ h' t' k, (∀ b o, s.heap.get? b = some o → h'.get? b = some o) → Q (.bytes ⟨rangeBytes x y⟩ t') { s with heap := h', toks := k }) : wpAny (model prog w) A (call (.type "bytes") [.ref a]) Q E s := by
 refine callType_codes (Q₁ := fun obj s₁ => s₁.TypeIs obj "bytes" ∧ Q obj s₁) F.bm_called (F.bm_typeCall _) F.entry_object_init
  (bmr_new hh hr h0 h1 fun h' t' k hk => ⟨PySem.W.typeIs_bytes _ _ _, by rw [← rangeB_is h0.1]; exact hQ h' t' k hk⟩) fun obj s₁ h₁ => ?_
 exact ⟨h₁.1, F.args_object_init_2 obj _, object_init_meets F.bm_called.init.lookup F.bm_called.made (by decide) prog w A.in1 _ s₁ ⟨h₁.1, rfl, h₁.2⟩⟩
end
end
end Mine
set_option maxRecDepth 100000
set_option genInjectivity false
set_option genSizeOf false
namespace Mine
open PySem PySem.W PySem.Calls PyProof.Rows PySem.SeqAt PyProof.V PySem.Spec
open PySem.MeetsSeq (EqGives)
section
section
variable {c : Cx} {K : Frag} {A : Around} {E : Value → Shared → Prop} {g : Ow} {σ : XSt} {s : Shared} {env : Env} {ns : Nk} {n : Nat}
theorem Inv.grown {m news} (I : Inv c g m news σ s) {h' : Heap} {t : Nat} (hk : ∀ b o, s.heap.get? b = some o → h'.get? b = some o) : Inv c g m news σ { s with heap := h', toks := t } :=
 ⟨⟨I.fr.ns.keeps hk, fun b o e => hk b o (I.fr.keep b o e), I.fr.above⟩, I.nw.grown hk, I.held, I.uniq, I.nx, I.cap, I.nodup, I.apart, I.mine, I.own, I.loc, I.cs, Nat.zero_le _, I.gens, I.drawn, I.os⟩
theorem Is.grown (I : Is c g σ s) {h' : Heap} {t : Nat} (hk : ∀ b o, s.heap.get? b = some o → h'.get? b = some o) : Is c g σ { s with heap := h', toks := t } := by
 obtain ⟨m, news, I⟩ := I; exact ⟨m, news, I.grown hk⟩
theorem at_br (q : Bool) (a b : XI) (π : Pi) : (br q b a).at π = if q then b.at π else a.at π := by cases q <;> rfl
theorem twoX_ok {big : Bool} {a b : XI} {k : XI → XSt → Bool} (h : twoX big a b σ k = true) (I : Is c g σ s) :
  ∃ x σ', k x σ' = true ∧ Cs c σ σ' ∧ x.at c.π = if (if big then decide (b.at c.π > a.at c.π) else decide (b.at c.π < a.at c.π)) then b.at c.π else a.at c.π := by
 obtain ⟨T, σ', e, h', C⟩ := tst_ok h c I.cs
 refine ⟨_, σ', h', C, ?_⟩
 rw [at_br, icmp_at e]
 cases big with
 | true => show (if gtB _ _ = true then _ else _) = _; rw [show gtB (b.at c.π) (a.at c.π) = decide (b.at c.π > a.at c.π) from ltB_is _ _]; rfl
 | false => show (if W.Z.ltB _ _ = true then _ else _) = _; rw [ltB_is]; rfl
theorem len_list_ok {a : Addr} {its : Array Value} {xs : List XV} {k : KV} (h : k (.int (.k (Int.ofNat xs.length))) σ = true) (I : Is c g σ s) (hl : s.heap.IsList a its) (r : RelL c.π g xs its.toList) (hf : (its.size : Int) < 2 ^ 63) :
  wpAny (model pg c.w) A (call (.builtin "len") [.ref a]) (Po c g (RelV c.π) k) E s := by
 have e : xs.length = its.size := by rw [All2.length r, Array.length_toList]
 refine Calls.call_len_list hl hf (Po.now h ⟨s.toks + 1, Nat.zero_le _, ?_⟩ (I.tok _ (by omega)))
 show Value.int _ _ = Value.int (Int.ofNat xs.length) _
 rw [e]; rfl
theorem builtinX_ok (hA : AOk A n) {id : Nat} {xs : List XV} {vs : List Value} {k : KV} (h : builtinX id xs σ k = true) (I : Is c g σ s) (r : RelL c.π g xs vs) :
  wpAny (model pg c.w) A (call (.builtin (biN id)) vs) (Po c g (RelV c.π) k) E s := by
 unfold builtinX at h
 split at h
 ·rename_i v
  refine br_el h ?_; intro hi h'
  clear h
  have h := h'
  obtain rfl := Nat.eq_of_beq_eq_true hi
  replace r := r.uncons
  obtain ⟨_, _, rfl, r1, r2⟩ := r
  obtain rfl := r2.unnil
  unfold lenX at h
  split at h
  ·rename_i b
   obtain ⟨t, _, rfl⟩ := r1
   refine br_el h ?_; clear h; intro hs h
   have hl := allBy_ok hs I
   refine len_bytes (by show (b.at c.π).length ≤ _; omega) (Po.now h ⟨s.toks + 1, Nat.zero_le _, ?_⟩ (I.tok _ (by omega)))
   cases b <;> rfl
  ·rename_i i
   split at h
   ·rename_i ys e1
    refine Is.el I ?_; intro m news I'
    refine I'.listE e1 ?_; intro a its n1 p1 q1 r3
    obtain rfl := own_of p1 r1
    refine br_el h ?_; clear h; intro hs h
    have hl := short_lt hs
    rw [r3.length, Array.length_toList] at hl
    exact len_list_ok h I (I'.nw.isList q1) r3 (by omega)
   ·rename_i e1
    refine Is.el I ?_; intro m news I'
    obtain ⟨a, ob, p1, q1, rfl⟩ := I'.own i _ e1
    obtain rfl := own_of p1 r1
    exact len_barr (I'.nw.get q1) (Po.now h ⟨_, Nat.zero_le _, rfl⟩ (I.tok _ (Nat.zero_le _)))
   ·cases h
  ·cases h
 ·rename_i a b
  replace r := r.uncons
  obtain ⟨_, _, rfl, r1, r2⟩ := r
  replace r2 := r2.uncons
  obtain ⟨_, _, rfl, r2, r3⟩ := r2
  obtain rfl := r3.unnil
  obtain ⟨t, _, rfl⟩ := r1
  obtain ⟨u, _, rfl⟩ := r2
  rcases br_and h with ⟨hi, h'⟩ | ⟨_, h'⟩ <;> (clear h; have h := h')
  ·obtain rfl := Nat.eq_of_beq_eq_true hi
   obtain ⟨x, σ', h', C, e⟩ := twoX_ok h I
   refine min_two_ints hA.hd fun h1 tk hk => Po.now h' ?_ ((I.parts C).grown hk)
   simp only [Bool.false_eq_true, if_false, decide_eq_true_eq] at e
   by_cases q : b.at c.π < a.at c.π
   ·rw [if_pos q] at e ⊢; exact ⟨u, Nat.zero_le _, by rw [e]⟩
   ·rw [if_neg q] at e ⊢; exact ⟨t, Nat.zero_le _, by rw [e]⟩
  ·refine br_el h ?_; intro hi h'
   clear h
   have h := h'
   obtain rfl := Nat.eq_of_beq_eq_true hi
   obtain ⟨x, σ', h', C, e⟩ := twoX_ok h I
   refine max_two_ints hA.hd fun h1 tk hk => Po.now h' ?_ ((I.parts C).grown hk)
   simp only [if_true, decide_eq_true_eq] at e
   by_cases q : b.at c.π > a.at c.π
   ·rw [if_pos q] at e ⊢; exact ⟨u, Nat.zero_le _, by rw [e]⟩
   ·rw [if_neg q] at e ⊢; exact ⟨t, Nat.zero_le _, by rw [e]⟩
 ·rename_i a b d
  replace r := r.uncons
  obtain ⟨_, _, rfl, r1, r2⟩ := r
  replace r2 := r2.uncons
  obtain ⟨_, _, rfl, r2, r3⟩ := r2
  replace r3 := r3.uncons
  obtain ⟨_, _, rfl, r3, r4⟩ := r3
  obtain rfl := r4.unnil
  obtain ⟨t, _, rfl⟩ := r1
  obtain ⟨u, _, rfl⟩ := r2
  obtain ⟨v, _, rfl⟩ := r3
  refine br_el h ?_; intro hi h'
  clear h
  have h := h'
  obtain rfl := Nat.eq_of_beq_eq_true hi
  obtain ⟨x, σ1, h1, C1, e1⟩ := twoX_ok h I
  obtain ⟨y, σ2, h2, C2, e2⟩ := twoX_ok h1 (I.parts C1)
  refine min_three_ints hA.hd fun h1 tk hk => Po.now h2 ?_ ((I.parts (C1.trans C2)).grown hk)
  simp only [Bool.false_eq_true, if_false, decide_eq_true_eq] at e1 e2
  by_cases q : b.at c.π < a.at c.π
  ·rw [if_pos q] at e1 ⊢
   rw [e1] at e2
   by_cases q2 : d.at c.π < b.at c.π
   ·rw [if_pos q2] at e2 ⊢; exact ⟨v, Nat.zero_le _, by rw [e2]⟩
   ·rw [if_neg q2] at e2 ⊢; exact ⟨u, Nat.zero_le _, by rw [e2]⟩
  ·rw [if_neg q] at e1 ⊢
   rw [e1] at e2
   by_cases q2 : d.at c.π < a.at c.π
   ·rw [if_pos q2] at e2 ⊢; exact ⟨v, Nat.zero_le _, by rw [e2]⟩
   ·rw [if_neg q2] at e2 ⊢; exact ⟨t, Nat.zero_le _, by rw [e2]⟩
 ·cases h
end
end
end Mine
set_option maxRecDepth 100000
set_option genInjectivity false
set_option genSizeOf false
namespace Mine
open PySem PySem.W PySem.Calls PyProof.Rows PySem.SeqAt PyProof.V PySem.Spec
open PySem.MeetsSeq (EqGives)
section
section
variable {c : Cx} {K : Frag} {A : Around} {E : Value → Shared → Prop} {g : Ow} {σ : XSt} {s : Shared} {env : Env} {ns : Nk} {n : Nat}
theorem Inv.pushed {m news} {o : XO} {ob : Obj} {k : KV} {t : Nat} (I : Inv c g m news σ s) (h : allocX o σ (fun i σ => k (.own i) σ) = true) (hf : ob.isFreed = false) (r : ∀ g', Grow g g' → RelO c.w c.π g' o ob) :
  Po c g (RelV c.π) k (.ref s.heap.objs.size) { s with heap := s.heap.push ob, toks := t } :=
 I.alloc h (I.fr.push ob) (I.nw.push I.fr ob hf) I.sizes (r _ (Grow.snoc g _)) (Nat.zero_le _)
theorem octet_is {x : Int} (h : octet x = true) : 0 ≤ x ∧ x ≤ 256 := by
 unfold octet at h
 refine br_el h ?_; intro a b
 exact ⟨(W.Z.leB_iff _ _).mp a, (W.Z.leB_iff _ _).mp b⟩
theorem intsB_is {π : Pi} : ∀ {xs : List XV} {l : List UInt8} {vs : List Value}, intsB xs = some l → RelL π g xs vs → ∃ ns : List Int, IntsAre vs ns ∧ (∀ n ∈ ns, 0 ≤ n ∧ n < 256) ∧ l = ns.map fun n => UInt8.ofNat n.toNat
 | [], l, vs, h, r => by cases h; cases r; exact ⟨[], .nil, by simp, rfl⟩
 | x :: xs, l, vs, h, r => by
  replace r := r.uncons
  obtain ⟨_, _, rfl, r1, r2⟩ := r
  unfold intsB at h
  split at h
  ·rename_i e; cases e
  ·rename_i n r' e
   cases e
   obtain ⟨t, _, rfl⟩ := r1
   cases h1 : W.Z.leB 0 n with
   | false => rw [h1] at h; cases h
   | true =>
    cases h2 : W.Z.ltB n 256 with
    | false => rw [h1, h2] at h; cases h
    | true =>
     rw [h1, h2] at h
     simp only [br_t] at h
     split at h
     ·rename_i l' e3
      cases h
      obtain ⟨ns, q1, q2, rfl⟩ := intsB_is e3 r2
      refine ⟨n :: ns, .cons n t q1, fun k hk => ?_, rfl⟩
      rcases List.mem_cons.mp hk with rfl | hk
      ·exact ⟨(W.Z.leB_iff 0 _).mp h1, (W.Z.ltB_iff _ 256).mp h2⟩
      ·exact q2 k hk
     ·cases h
  ·cases h
theorem rngB_at {a b : XI} {l : XB} (h : rngB a b = some l) (π : Pi) : l.at π = rangeBytes (a.at π) (b.at π) := by
 unfold rngB at h
 split at h
 ·cases h; rfl
 ·cases h; rfl
 ·cases h
theorem typeX_ok (hA : AOk A n) {k0 : Nat} {xs : List XV} {vs : List Value} {k : KV} (h : typeX k0 xs σ k = true) (I : Is c g σ s) (r : RelL c.π g xs vs) :
  wpAny (model pg c.w) A (call (.type (tyN k0)) vs) (Po c g (RelV c.π) k) E s := by
 unfold typeX at h
 split at h
 ·split at h
  ·rename_i b
   replace r := r.uncons
   obtain ⟨_, _, rfl, r1, r2⟩ := r
   cases r2; cases r1
   refine call_int_bool (Po.now h ⟨s.toks, Nat.zero_le _, ?_⟩ (I.tok _ (by omega)))
   cases b <;> rfl
  ·cases h
 ·split at h
  ·rename_i b
   replace r := r.uncons
   obtain ⟨_, _, rfl, r1, r2⟩ := r
   obtain rfl := r2.unnil
   obtain ⟨t, _, rfl⟩ := r1
   exact bytes_bytes (Po.now h ⟨t, Nat.zero_le _, rfl⟩ I)
  ·rename_i i
   replace r := r.uncons
   obtain ⟨_, _, rfl, r1, r2⟩ := r
   obtain rfl := r2.unnil
   split at h
   ·rename_i a b e1
    refine br_el h ?_; clear h; intro h1 h
    refine br_el h ?_; clear h; intro h2 h
    split at h
    ·rename_i l e2
     refine Is.el I ?_; intro m news I'
     obtain ⟨ad, ob, p1, q1, t, t', u, rfl⟩ := I'.own i _ e1
     obtain rfl := own_of p1 r1
     exact bytes_range hA.hd (I'.nw.get q1) (octet_is (allI_ok h1 c I.cs)) (octet_is (allI_ok h2 c I.cs)) fun h' t' k' hk => Po.now h ⟨t', Nat.zero_le _, by rw [rngB_at e2]⟩ (I.grown hk)
    ·cases h
   ·rename_i ys e1
    refine br_el h ?_; clear h; intro hs h
    split at h
    ·rename_i l e2
     refine Is.el I ?_; intro m news I'
     refine I'.listE e1 ?_; intro a its n1 p1 q1 r3
     have hl := short_lt hs
     rw [r3.length] at hl
     obtain rfl := own_of p1 r1
     obtain ⟨ns, z1, z2, rfl⟩ := intsB_is e2 r3
     exact call_bytes_ints (vs := its.toList) (by simpa using I'.nw.isList q1) z1 z2 (by rw [sizeLine_eq]; omega) hA.hd fun h' t' k' hk => Po.now h ⟨t', Nat.zero_le _, rfl⟩ (I.grown hk)
    ·cases h
   ·cases h
  ·cases h
 ·split at h
  ·rename_i b
   replace r := r.uncons
   obtain ⟨_, _, rfl, r1, r2⟩ := r
   obtain rfl := r2.unnil
   obtain ⟨t, _, rfl⟩ := r1
   refine Is.el I ?_; intro m news I'
   exact call_range_1 (I'.pushed h rfl fun g' _ => ⟨_, _, _, rfl⟩)
  ·rename_i a b
   replace r := r.uncons
   obtain ⟨_, _, rfl, r1, r2⟩ := r
   replace r2 := r2.uncons
   obtain ⟨_, _, rfl, r2, r3⟩ := r2
   obtain rfl := r3.unnil
   obtain ⟨t, _, rfl⟩ := r1
   obtain ⟨u, _, rfl⟩ := r2
   refine Is.el I ?_; intro m news I'
   exact call_range_2 (I'.pushed h rfl fun g' _ => ⟨_, _, _, rfl⟩)
  ·cases h
 ·cases h
end
end
end Mine
set_option maxRecDepth 100000
set_option genInjectivity false
set_option genSizeOf false
namespace Mine
open PySem PySem.W PySem.Calls PyProof.Rows PySem.SeqAt PyProof.V PySem.Spec
open PySem.MeetsSeq (EqGives)
section
section
variable {c : Cx} {K : Frag} {A : Around} {E : Value → Shared → Prop} {g : Ow} {σ : XSt} {s : Shared} {env : Env} {ns : Nk} {n : Nat}
theorem atX_is {i : Int} {xs : List XV} {x : XV} (h : atX i xs = some x) : 0 ≤ i ∧ i < 1000000 ∧ xs[i.toNat]? = some x := by
 unfold atX at h
 cases h1 : W.Z.leB 0 i with
 | false => rw [h1] at h; cases h
 | true =>
  cases h2 : W.Z.ltB i 1000000 with
  | false => rw [h1, h2] at h; cases h
  | true =>
   rw [h1, h2] at h
   exact ⟨(W.Z.leB_iff _ _).mp h1, (W.Z.ltB_iff _ _).mp h2, by rw [← idxL_get]; exact h⟩
theorem itemX_ok {o i : XV} {vo vi : Value} {value slice : Expr} {k : KV} (h : itemX o i σ k = true) (I : Is c g σ s) (ro : RelV c.π g o vo) (ri : RelV c.π g i vi)
  (hs : subscripted slice false vo vi = operate [vo, vi] (getItem vo vi)) : wpAny (model pg c.w) A (subscriptTail value slice vo vi) (Po c g (RelV c.π) k) E s := by
 unfold itemX at h
 split at h
 ·rename_i j n
  obtain ⟨t, _, rfl⟩ := ri
  split at h
  ·rename_i xs e1
   split at h
   ·rename_i x e2
    refine Is.el I ?_; intro m news I'
    refine I'.listE e1 ?_; intro a its n1 p1 q1 r
    obtain rfl := own_of p1 ro
    obtain ⟨h0, h1, h2⟩ := atX_is e2
    obtain ⟨v, h3, r3⟩ := r.get h2
    exact tail_any (I'.nw.isList q1).typeIs slot_list_getitem.lookup (wpAny_getItem_list (I'.nw.isList q1) h0 (show n < 2 ^ 63 by omega) (by show its[n.toNat]? = some v; simpa using h3) (Po.now h r3 I)) hs
   ·cases h
  ·rename_i xs e1
   split at h
   ·rename_i x e2
    refine Is.el I ?_; intro m news I'
    refine I'.tupE e1 ?_; intro a its n1 p1 q1 r
    obtain rfl := own_of p1 ro
    obtain ⟨h0, h1, h2⟩ := atX_is e2
    obtain ⟨v, h3, r3⟩ := r.get h2
    have hlt : n < its.size := by
     have z := (List.getElem?_eq_some_iff.mp h3).1
     rw [Array.length_toList] at z
     omega
    exact tail_any (I'.nw.isTup q1).typeIs slot_tuple_getitem.lookup (PyProof.Rows.getItem_tuple (I'.nw.isTup q1) (show -(2 ^ 63) ≤ n by omega) (show n < 2 ^ 63 by omega) (seqIndex_of h0 hlt) (by show its[n.toNat]? = some v; simpa using h3) (Po.now h r3 I)) hs
   ·cases h
  ·rename_i es e1
   split at h
   ·rename_i x e2
    refine Is.el I ?_; intro m news I'
    refine I'.idictE e1 ?_; intro a ob kvs p1 q1 D r
    obtain rfl := own_of p1 ro
    obtain ⟨v, h3, r3⟩ := (RelI_look r n).1 x e2
    exact tail_any D.typeIs slot_dict_getitem.lookup (wpAny_getItem_of (intKind_is pg c.w _ t) D.mapOf h3 (Po.now h r3 (I.tok _ (Nat.zero_le _)))) hs
   ·cases h
  ·cases h
 ·rename_i j y
  obtain ⟨t, _, rfl⟩ := ri
  split at h
  ·rename_i es e1
   split at h
   ·rename_i x e2
    refine Is.el I ?_; intro m news I'
    refine I'.sdictE e1 ?_; intro a ob kvs p1 q1 D r
    obtain rfl := own_of p1 ro
    obtain ⟨v, h3, r3⟩ := RelS_look r y x e2
    exact tail_any D.typeIs slot_dict_getitem.lookup (wpAny_getItem_of (strKind_is pg c.w _ t) D.mapOf h3 (Po.now h r3 (I.tok _ (Nat.zero_le _)))) hs
   ·cases h
  ·cases h
 ·cases h
theorem subscripted_no {ns x e} (m : ME ns x e) (o i : Value) : subscripted e false o i = operate [o, i] (getItem o i) := by
 have m := m.ok
 cases e <;> first | rfl | exact absurd rfl m
theorem callX_ok (hC : SC K n) (B : Base c) (G : Globs c) (S : Stat c K) (hA : AOk A (n + 1)) {f : XV} {vf : Value} {xs : List XV} {vs : List Value} {k : KV} (h : callX tab (ev tab n) f xs σ k = true) (I : Is c g σ s) (rf : RelV c.π g f vf) (r : RelL c.π g xs vs) :
  wpAny (model pg c.w) A (call vf vs) (Po c g (RelV c.π) k) E s := by
 unfold callX at h
 split at h
 ·rename_i a
  cases rf
  split at h
  ·rename_i ci e1; exact newX_ok hC B G S hA e1 h I r
  ·exact callF_ok hC B G S hA.down h I r
 ·cases rf; exact builtinX_ok hA h I r
 ·cases rf; exact typeX_ok hA h I r
 ·cases h
theorem c_known {n : Nat} {a : Addr} {xs : List XV} {k : KV} (h : (ev tab n).c a xs σ k = true) : ∃ fi, tab.funs.get a = some fi := by
 cases n with
 | zero => exact nomatch h
 | succ n =>
  change stepC tab (ev tab n) a xs σ k = true at h
  unfold stepC at h
  split at h
  ·rename_i fi e; exact ⟨fi, e⟩
  ·cases h
theorem keeps_callX (S : Stat c K) {f : XV} {vf : Value} {xs : List XV} {k : KV} (h : callX tab (ev tab n) f xs σ k = true) (rf : RelV c.π g f vf) (I : Is c g σ s) :
  ∃ kk, (kk = Keeper.frame ∨ kk = Keeper.machine ∨ kk = Keeper.boundFrame) ∧ Looks (model pg c.w) s.heap (keeperOf vf) kk := by
 obtain ⟨m, news, I'⟩ := I
 unfold callX at h
 split at h
 ·cases rf
  split at h
  ·rename_i ci e1; exact keeps_K (S.cls _ ci e1).keep _ (S.kin.keeps I'.fr.keep)
  ·obtain ⟨fi, e⟩ := c_known h
   exact keeps_K (S.fns _ fi e) _ (S.kin.keeps I'.fr.keep)
 ·cases rf; exact keeps_plain rfl _
 ·cases rf; exact keeps_plain rfl _
 ·cases h
theorem keeps_callM (S : Stat c K) {f : Cal} {o : XV} {vf : Value × List Value} {xs : List XV} {k : KV} (h : callM (ev tab n) f o xs σ k = true) (hv : CalV c g f o vf) (I : Is c g σ s) :
  ∃ kk, (kk = Keeper.frame ∨ kk = Keeper.machine ∨ kk = Keeper.boundFrame) ∧ Looks (model pg c.w) s.heap (keeperOf vf.1) kk := by
 obtain ⟨m, news, I'⟩ := I
 obtain ⟨i, a, z1, z2, z3, z4⟩ := hv
 rw [z4]
 cases f with
 | fn b =>
  obtain ⟨fi, e⟩ := c_known (show (ev tab n).c b (o :: xs) σ k = true from h)
  exact keeps_K (S.fns _ fi e) _ (S.kin.keeps I'.fr.keep)
 | _ => exact keeps_plain rfl _
theorem getM_ok (S : Stat c K) {o : XV} {vo : Value} {x : Nat} {f : Cal} {pl : Sem Bool} {Q : Value × List Value → Shared → Prop} (h : getM tab o x σ = some f) (I : Is c g σ s) (r : RelV c.π g o vo) (hq : ∀ vf, CalV c g f o vf → Q vf s)
  (ha : nm tab.nAppend = "append") (hr : nm tab.nRemove = "remove") (hp : nm tab.nPop = "pop") : wpAny (model pg c.w) A (getMethod vo (nm x) pl) Q E s := by
 unfold getM at h
 split at h
 ·rename_i i
  split at h
  ·rename_i C d e1
   split at h
   ·rename_i ci e2
    split at h
    ·rename_i fs e3
     split at h
     ·rename_i a e4
      split at h
      ·rename_i e5
       cases h
       refine Is.el I ?_; intro m news I'
       obtain ⟨ad, add, p1, p2, q1⟩ := I'.inst e1
       obtain ⟨ad', es, ep, p3, q2, rf⟩ := I'.flds e3
       rw [p2] at p3; cases p3
       obtain rfl := own_of p1 r
       have hcl := S.cls C ci e2
       obtain ⟨f1, f2, f3⟩ := hcl.attrs x _ e4
       have hl := RelF_look rf x
       rw [e5] at hl
       exact method_inst I'.fr S.kin (InstAt.of_news I'.nw q1 q2) (hcl.get _) f1 f2 hl (hq _ ⟨i, ad, rfl, p1, rfl, rfl⟩)
      ·cases h
     ·cases h
    ·cases h
   ·cases h
  ·rename_i xs e1
   refine Is.el I ?_; intro m news I'
   refine I'.listE e1 ?_; intro a its n1 p1 q1 r3
   obtain rfl := own_of p1 r
   have nd : ∀ b, Value.ref a = .ref b → ∃ o, s.heap.get? b = some o ∧ o.dict = none := fun b e => by cases e; exact ⟨_, I'.nw.get q1, rfl⟩
   cases h1 : Nat.beq x tab.nAppend with
   | true =>
    rw [h1] at h; cases h
    rw [Nat.eq_of_beq_eq_true h1, ha]
    exact getMethod_builtin (I'.nw.isList q1).typeIs PySem.F.plainAttrs_list PySem.F.slot_list_append PySem.F.type_list_append nd (hq _ ⟨i, a, rfl, p1, rfl, rfl⟩)
   | false =>
    cases h2 : Nat.beq x tab.nRemove with
    | true =>
     rw [h1, h2] at h; cases h
     rw [Nat.eq_of_beq_eq_true h2, hr]
     exact getMethod_builtin (I'.nw.isList q1).typeIs PySem.F.plainAttrs_list PySem.F.slot_list_remove PySem.F.type_list_remove nd (hq _ ⟨i, a, rfl, p1, rfl, rfl⟩)
    | false => rw [h1, h2] at h; cases h
  ·rename_i es e1
   refine Is.el I ?_; intro m news I'
   refine I'.idictE e1 ?_; intro a ob kvs p1 q1 D r3
   obtain rfl := own_of p1 r
   cases h1 : Nat.beq x tab.nPop with
   | true =>
    rw [h1] at h; cases h
    rw [Nat.eq_of_beq_eq_true h1, hp]
    exact getMethod_builtin D.typeIs PySem.F.plainAttrs_dict PySem.F.slot_dict_pop PySem.F.type_dict_pop D.mapOf.noDict (hq _ ⟨i, a, rfl, p1, rfl, rfl⟩)
   | false => rw [h1] at h; cases h
  ·cases h
 ·cases h
end
end
end Mine
set_option maxRecDepth 100000
set_option genInjectivity false
set_option genSizeOf false
namespace Mine
open PySem PySem.W PySem.Calls PyProof.Rows PySem.SeqAt PyProof.V PySem.Spec
open PySem.MeetsSeq (EqGives)
section
section
variable {c : Cx} {K : Frag} {A : Around} {E : Value → Shared → Prop} {g : Ow} {σ : XSt} {s : Shared} {env : Env} {ns : Nk} {n : Nat}
theorem clip_of {n : Nat} {a : Int} (h : 0 ≤ a) : clipAt n a = min a.toNat n := by
 have := clipAt_nat n a.toNat
 rwa [Int.toNat_of_nonneg h] at this
theorem pick_from {l : List UInt8} {a : Int} (h : 0 ≤ a) : KBy.picked ⟨l⟩ (some a) none = ⟨dropB l a⟩ := by
 rw [KBc.picked_eq]
 show ((l.drop (clipAt l.length a)).take (l.length - clipAt l.length a)).toArray = ⟨l.drop a.toNat⟩
 rw [clip_of h]
 have : (l.drop (min a.toNat l.length)).take (l.length - min a.toNat l.length) = l.drop a.toNat := by
  rw [List.take_of_length_le (by rw [List.length_drop]; omega)]
  by_cases q : a.toNat ≤ l.length
  ·rw [Nat.min_eq_left q]
  ·rw [Nat.min_eq_right (by omega), List.drop_length, List.drop_of_length_le (by omega)]
 rw [this]
theorem pick_to {l : List UInt8} {a : Int} (h : 0 ≤ a) : KBy.picked ⟨l⟩ none (some a) = ⟨takeB l a⟩ := by
 rw [KBc.picked_eq]
 show ((l.drop 0).take (clipAt l.length a - 0)).toArray = ⟨l.take a.toNat⟩
 rw [clip_of h, List.drop_zero, Nat.sub_zero]
 have : l.take (min a.toNat l.length) = l.take a.toNat := by
  by_cases q : a.toNat ≤ l.length
  ·rw [Nat.min_eq_left q]
  ·rw [Nat.min_eq_right (by omega), List.take_length, List.take_of_length_le (by omega)]
 rw [this]
theorem pick_both {l : List UInt8} {a b : Int} (h : 0 ≤ a) (h2 : 0 ≤ b) : KBy.picked ⟨l⟩ (some a) (some b) = ⟨dropB (takeB l b) a⟩ := by
 rw [KBc.picked_eq]
 show ((l.drop (clipAt l.length a)).take (clipAt l.length b - clipAt l.length a)).toArray = ⟨(l.take b.toNat).drop a.toNat⟩
 rw [clip_of h, clip_of h2, List.drop_take]
 have : (l.drop (min a.toNat l.length)).take (min b.toNat l.length - min a.toNat l.length) = (l.drop a.toNat).take (b.toNat - a.toNat) := by
  by_cases q : a.toNat ≤ l.length
  ·rw [Nat.min_eq_left q]
   by_cases q2 : b.toNat ≤ l.length
   ·rw [Nat.min_eq_left q2]
   ·rw [Nat.min_eq_right (by omega), List.take_of_length_le (by rw [List.length_drop]; omega), List.take_of_length_le (by rw [List.length_drop]; omega)]
  ·rw [Nat.min_eq_right (show l.length ≤ a.toNat by omega), List.drop_length, List.drop_of_length_le (show l.length ≤ a.toNat by omega)]; simp
 rw [this]
theorem slice_ok {value slice : Expr} {b : List UInt8} {t : Tok} {l u : Value} {lo hi : Option Int} {res : List UInt8} {Q : Value → Shared → Prop} (I : Is c g σ s) (hl : IsPart l lo) (hu : IsPart u hi) (hz : b.length < 900) (hr : KBy.picked ⟨b⟩ lo hi = ⟨res⟩)
  (hs : subscripted slice false (.bytes ⟨b⟩ t) (.ref s.heap.objs.size) = operate [.ref s.heap.objs.size, .bytes ⟨b⟩ t] (getItem (.bytes ⟨b⟩ t) (.ref s.heap.objs.size)))
  (hq : ∀ h' t' k, Is c g σ { s with heap := h', toks := k } → Q (.bytes ⟨res⟩ t') { s with heap := h', toks := k }) :
  wpAny (model pg c.w) A (subscriptTail value slice (.bytes ⟨b⟩ t) (.ref s.heap.objs.size)) Q E { s with heap := s.heap.push { cls := .type "slice", data := .fields #[l, u, .none] } } := by
 obtain ⟨m, news, I'⟩ := I
 refine KBc.slice_K I'.fr I'.nw rfl hl hu (by rw [KBw.ints_length]; show b.length ≤ _; omega) (fun h' t' k F N _ => ?_) hs (fun r => by cases value <;> rfl)
 rw [hr]
 exact hq h' t' k ⟨m, news, ⟨F, N, I'.held, I'.uniq, I'.nx, I'.cap, I'.nodup, I'.apart, I'.mine, I'.own, I'.loc, I'.cs, Nat.zero_le _, I'.gens, I'.drawn, I'.os⟩⟩
end
end
end Mine
set_option maxRecDepth 100000
set_option genInjectivity false
set_option genSizeOf false
namespace Mine
open PySem PySem.W PySem.Calls PyProof.Rows PySem.SeqAt PyProof.V PySem.Spec
section
noncomputable abbrev TK (w : World) : HeapKind pg w (List Str) := tupleKind (strKind pg w)
noncomputable abbrev Tri := (Nat × Nat) × Nat
noncomputable abbrev keyOf (p : Tri) : List Str := [nm p.1.1, nm p.1.2]
noncomputable def XRel (p : Tri) (x : List Str × Addr × Value) : Prop := x.1 = keyOf p ∧ ∃ t, x.2.2 = .str (nm p.2) t
noncomputable def PV (w : World) (h : Heap) (p : Tri) (v : Value × Value) : Prop := ∃ a t, v = (.ref a, .str (nm p.2) t) ∧ IsTupleKey (strKind pg w) h (keyOf p) a
noncomputable def Says (w : World) (env : Env) (P : Heap → Prop) (e : Expr) (x : Str) : Prop :=
 ∀ (A : Around) (E : Value → Shared → Prop) (s : Shared) (Q : Value → Shared → Prop), P s.heap → (∀ t k, Q (.str x t) { s with toks := k }) → wpAny (model pg w) A (eval e env) Q E s
inductive TPs (w : World) (env : Env) (P : Heap → Prop) : List Tri → List (Option Expr) → List Expr → Prop
 | nil : TPs w env P [] [] []
 | cons {a b v e1 e2 e3 k p es ks vs} : isStar e1 = false → isStar e2 = false → Says w env P e1 (nm a) → Says w env P e2 (nm b) → Says w env P e3 (nm v) → TPs w env P es ks vs → TPs w env P (((a, b), v) :: es) (some (.Tuple [e1, e2] k p) :: ks) (e3 :: vs)
section
variable {w : World} {A : Around} {E : Value → Shared → Prop} {s : Shared} {env : Env} {P : Heap → Prop}
theorem IsTupleKey.grown {h h' : Heap} {ks : List Str} {a : Addr} (x : IsTupleKey (strKind pg w) h ks a) (k : ∀ b o, h.get? b = some o → h'.get? b = some o) : IsTupleKey (strKind pg w) h' ks a := by
 obtain ⟨o, items, n, ho, r⟩ := x; exact ⟨o, items, n, k _ _ ho, r⟩
theorem DictOfH.grown {h h' : Heap} {d : Addr} {xs : List (List Str × Addr × Value)} (x : h.DictOfH (TK w) d xs) (k : ∀ b o, h.get? b = some o → h'.get? b = some o) : h'.DictOfH (TK w) d xs := by
 obtain ⟨o, es, ep, ho, hc, hd, he, hk, hn⟩ := x
 exact ⟨o, es, ep, k _ _ ho, hc, hd, he, fun y hy => IsTupleKey.grown (hk y hy) k, hn⟩
theorem starEach2 {e1 e2 : Expr} (h1 : isStar e1 = false) (h2 : isStar e2 = false) : starEach [e1, e2] env = [(false, eval e1 env), (false, eval e2 env)] := by
 rw [star_cons h1, star_cons h2]; rfl
theorem key_ok {x y : Str} {e1 e2 : Expr} {k : Nat} {p : Pos} {Q : Value → Shared → Prop} (i1 : isStar e1 = false) (i2 : isStar e2 = false) (h1 : Says w env P e1 x) (h2 : Says w env P e2 y) (hP : P s.heap)
  (hq : ∀ a h' tk, (∀ b o, s.heap.get? b = some o → h'.get? b = some o) → s.heap.objs.size ≤ a → IsTupleKey (strKind pg w) h' [x, y] a → Q (.ref a) { s with heap := h', toks := tk }) :
  wpAny (model pg w) A (eval (.Tuple [e1, e2] k p) env) Q E s := by
 refine Tuple_ ?_
 rw [starEach2 i1 i2]
 show wpAny _ A (spliced ((false, eval e1 env) :: backTo p [(false, eval e2 env)])) _ E s
 refine spliced_cons (h1 _ _ _ _ hP fun t tk => ?_)
 show wpAny _ A (spliced [(false, eval e2 env)]) _ E _
 refine spliced_cons (h2 _ _ _ _ hP fun t2 tk2 => spliced_nil ?_)
 refine wpAny_newTuple (hq _ _ _ (fun b o e => Heap.get?_push_of_some _ e) (Nat.le_refl _) ⟨_, _, _, Heap.get?_push_size _ rfl, rfl, rfl, ?_⟩) (by rw [sizeLine_eq]; show 2 ≤ _; omega)
 exact .cons (strKind_is pg w x t) (.cons (strKind_is pg w y t2) .nil)
theorem evalPairs_ok (hPk : ∀ h h', P h → (∀ b o, h.get? b = some o → h'.get? b = some o) → P h') {es : List Tri} {ks : List (Option Expr)} {vs : List Expr} {pos : Pos} (T : TPs w env P es ks vs) : ∀ {s : Shared} {Q : List (Value × Value) → Shared → Prop}, P s.heap →
  (∀ l h' tk, (∀ b o, s.heap.get? b = some o → h'.get? b = some o) → All2 (PV w h') es l → Q l { s with heap := h', toks := tk }) → wpAny (model pg w) A (evalPairs (pairTrees ks vs env pos)) Q E s := by
 induction T with
 | nil => intro s Q hP hq; exact evalPairs_nil (hq [] _ _ (fun _ _ e => e) .nil)
 | cons i1 i2 h1 h2 h3 r ih =>
  intro s Q hP hq
  refine evalPairs_cons (key_ok i1 i2 h1 h2 hP fun a h' tk k1 _ ka => ?_)
  refine wpAny_bind (h3 _ _ _ _ (hPk _ _ hP k1) fun t tk2 => wpAny_bind (wpAny_standAt (wpAny_pure ?_)))
  refine ih (hPk _ _ hP k1) fun l h2' tk3 k2 al => ?_
  exact hq _ h2' tk3 (fun b o e => k2 _ _ (k1 _ _ e)) (.cons ⟨a, t, rfl, IsTupleKey.grown ka k2⟩ al)
noncomputable def apartT : List Tri → Bool
 | [] => true
 | p :: r => an (@List.rec Tri (fun _ => Bool) true (fun q _ ih => br (Nat.beq q.1.1 p.1.1) (br (Nat.beq q.1.2 p.1.2) false ih) ih) r) (apartT r)
theorem apart_head {p : Tri} : ∀ {r : List Tri}, @List.rec Tri (fun _ => Bool) true (fun q _ ih => br (Nat.beq q.1.1 p.1.1) (br (Nat.beq q.1.2 p.1.2) false ih) ih) r = true → ∀ q ∈ r, keyOf q ≠ keyOf p
 | [], _, q, hq => by simp at hq
 | x :: r, h, q, hq => by
  change br (Nat.beq x.1.1 p.1.1) (br (Nat.beq x.1.2 p.1.2) false _) _ = true at h
  rw [BT.beq_eq, BT.beq_eq] at h
  rcases List.mem_cons.mp hq with rfl | hq
  ·intro e
   injection e with e1 e2
   injection e2 with e2 _
   have h1 := nm_inj e1
   have h2 := nm_inj e2
   simp [h1, h2] at h
  ·refine apart_head (r := r) ?_ q hq
   by_cases h1 : x.1.1 = p.1.1
   ·by_cases h2 : x.1.2 = p.1.2
    ·simp [h1, h2] at h
    ·simpa [h1, h2] using h
   ·simpa [h1] using h
theorem apartT_cons {p : Tri} {r : List Tri} (h : apartT (p :: r) = true) : (∀ q ∈ r, keyOf q ≠ keyOf p) ∧ apartT r = true := by
 obtain ⟨a, b⟩ := an_true h
 exact ⟨apart_head a, b⟩
theorem atKey_none {k : List Str} {xs : List (List Str × Addr × Value)} (h : ∀ x ∈ xs, x.1 ≠ k) : atKey xs k = none := by
 unfold atKey
 rw [List.find?_eq_none.mpr fun x hx => by simpa using h x hx]
 rfl
theorem store_one (hu : A.units < cLine) {d a : Addr} {p : Tri} {t : Tok} {es : List Tri} {xs : List (List Str × Addr × Value)} {Q : Unit → Shared → Prop} (hk : IsTupleKey (strKind pg w) s.heap (keyOf p) a) (hm : s.heap.DictOfH (TK w) d xs) (hx : All2 XRel es xs)
  (ha : ∀ q ∈ es, keyOf q ≠ keyOf p) (hl : es.length ≤ 100)
  (hq : ∀ h' xs' tk, h'.DictOfH (TK w) d xs' → All2 XRel (es ++ [p]) xs' → Heap.SameBut d s.heap h' → Q () { s with heap := h', toks := tk }) : wpAny (model pg w) A (dictSet d (.ref a) (.str (nm p.2) t)) Q E s := by
 have hn : atKey xs (keyOf p) = none := atKey_none fun x hx' => by
  obtain ⟨q, hq', r⟩ := hx.mem x hx'
  rw [r.1]; exact ha q hq'
 refine wpAny_dictSet_heap (knd := TK w) (v := .str (nm p.2) t) hu hk hm (fun h' hm' hs => ?_) (by have := hx.length; rw [sizeLine_eq]; omega)
 rw [storedH_new hn] at hm'
 exact hq h' _ _ hm' (hx.append (.cons ⟨rfl, t, rfl⟩ .nil)) hs
theorem PV.same {h h' : Heap} {d : Addr} {xs : List (List Str × Addr × Value)} {p : Tri} {v : Value × Value} (x : PV w h p v) (hm : h.DictOfH (TK w) d xs) (hs : Heap.SameBut d h h') : PV w h' p v := by
 obtain ⟨a, t, e, k⟩ := x
 obtain ⟨o, es, ep, ho, hc, hd, he, hk, hn⟩ := hm
 exact ⟨a, t, e, k.keeps ho hd hs⟩
theorem forStore_ok (hu : A.units < cLine) {d : Addr} : ∀ {ps : List Tri} {vs : List (Value × Value)} {es : List Tri} {xs : List (List Str × Addr × Value)} {s : Shared} {Q : PUnit → Shared → Prop}, All2 (PV w s.heap) ps vs → s.heap.DictOfH (TK w) d xs → All2 XRel es xs →
  (∀ p ∈ ps, ∀ q ∈ es, keyOf q ≠ keyOf p) → apartT ps = true → es.length + ps.length ≤ 100 →
  (∀ h' xs' tk, h'.DictOfH (TK w) d xs' → All2 XRel (es ++ ps) xs' → Heap.SameBut d s.heap h' → Q PUnit.unit { s with heap := h', toks := tk }) →
  wpAny (model pg w) A (forIn vs PUnit.unit fun (x : Value × Value) (_ : PUnit) => (do dictSet d x.1 x.2; pure (ForInStep.yield PUnit.unit) : Sem (ForInStep PUnit))) Q E s := by
 intro ps
 induction ps with
 | nil =>
  intro vs es xs s Q hv hm hx _ _ _ hq
  cases hv
  rw [List.forIn_nil]
  exact wpAny_pure (hq _ xs _ hm (by simpa using hx) (Heap.SameBut.refl _ _))
 | cons p ps ih =>
  intro vs es xs s Q hv hm hx ha hap hl hq
  cases hv with
  | cons v1 v2 =>
   rw [List.length_cons] at hl
   obtain ⟨a, t, rfl, hk⟩ := v1
   obtain ⟨a1, a2⟩ := apartT_cons hap
   rw [List.forIn_cons]
   refine wpAny_bind (wpAny_bind (store_one hu hk hm hx (ha p List.mem_cons_self) (by omega) fun h' xs' tk hm' hx' hs => wpAny_pure ?_))
   refine ih (v2.mono fun _ _ r => PV.same r hm hs) hm' hx' (fun q hq' r hr => ?_) a2 (by simp; omega) fun h2 xs2 tk2 hm2 hx2 hs2 => ?_
   ·rcases List.mem_append.mp hr with hr | hr
    ·exact ha q (List.mem_cons_of_mem _ hq') r hr
    ·rw [List.mem_singleton.mp hr]
     exact (a1 q hq').symm
   ·exact hq h2 xs2 tk2 hm2 (by simpa using hx2) (hs.trans hs2)
end
end
end Mine
set_option maxRecDepth 100000
set_option genInjectivity false
set_option genSizeOf false
namespace Mine
open PySem PySem.W PySem.Calls PyProof.Rows PySem.SeqAt PyProof.V PySem.Spec
section
noncomputable def KeepP (h₀ h : Heap) : Prop := ∀ b o, h₀.get? b = some o → h.get? b = some o
section
variable {w : World} {A : Around} {E : Value → Shared → Prop} {s : Shared} {env : Env} {h₀ : Heap}
theorem KeepP.grown {h h' : Heap} (x : KeepP h₀ h) (k : ∀ b o, h.get? b = some o → h'.get? b = some o) : KeepP h₀ h' := fun b o e => k _ _ (x _ _ e)
theorem KeepP.but {h h' : Heap} {d : Addr} (x : KeepP h₀ h) (hd : h₀.get? d = none) (k : Heap.ExtBut d h h') : KeepP h₀ h' := fun b o e => k _ _ (fun q => by rw [q, hd] at e; cases e) (x _ _ e)
theorem none_at {h : Heap} (x : KeepP h₀ h) : h₀.get? h.objs.size = none := by
 cases e : h₀.get? h.objs.size with
 | none => rfl
 | some o => exact absurd (Heap.lt_size (x _ _ e)) (Nat.lt_irrefl _)
theorem grown_of {h h' : Heap} {o : Obj} (k : Heap.ExtBut h.objs.size (h.push o) h') : ∀ b o', h.get? b = some o' → h'.get? b = some o' := fun b o' e => k b o' (Nat.ne_of_lt (Heap.lt_size e)) (Heap.get?_push_of_some _ e)
noncomputable abbrev DPost (w : World) (s : Shared) (es : List Tri) (Q : Addr → Shared → Prop) : Prop :=
 ∀ h' xs tk, h'.DictOfH (TK w) s.heap.objs.size xs → All2 XRel es xs → (∀ b o, s.heap.get? b = some o → h'.get? b = some o) → Q s.heap.objs.size { s with heap := h', toks := tk }
theorem subShort (hu : A.units < cLine) {es : List Tri} {ks : List (Option Expr)} {vs : List Expr} {pos : Pos} (T : TPs w env (KeepP h₀) es ks vs) (hl : (pairTrees ks vs env pos).length ≤ 15) (hle : es.length ≤ 100) (ha : apartT es = true) (hP : KeepP h₀ s.heap) {Q : Addr → Shared → Prop} (hq : DPost w s es Q) :
  wpAny (model pg w) A (subDict (pairTrees ks vs env pos)) Q E s := by
 refine wpAny_subDict_any hl ?_
 refine evalPairs_ok (P := KeepP h₀) (fun h h' x k => x.grown k) T (hP.grown fun b o e => Heap.get?_push_of_some _ e) fun l h' tk k al => ?_
 refine forStore_ok hu (d := s.heap.objs.size) (ps := es) (es := []) (xs := []) (by exact al) (DictOfH.grown (Heap.DictOfH.new s.heap) k) .nil (fun _ _ _ h => by simp at h) ha (by simpa using hle) fun h2 xs tk2 hm hx hs => ?_
 exact hq h2 xs tk2 hm hx fun b o e => hs.extBut b o (Nat.ne_of_lt (Heap.lt_size e)) (k _ _ (Heap.get?_push_of_some _ e))
theorem forLong_ok (hu : A.units < cLine) {d : Addr} (hd : h₀.get? d = none) {pos : Pos} {ps : List Tri} {ks : List (Option Expr)} {vs : List Expr} (T : TPs w env (KeepP h₀) ps ks vs) : ∀ {es : List Tri} {xs : List (List Str × Addr × Value)} {s : Shared} {Q : PUnit → Shared → Prop}, KeepP h₀ s.heap → s.heap.DictOfH (TK w) d xs → All2 XRel es xs →
  (∀ p ∈ ps, ∀ q ∈ es, keyOf q ≠ keyOf p) → apartT ps = true → es.length + ps.length ≤ 100 →
  (∀ h' xs' tk, h'.DictOfH (TK w) d xs' → All2 XRel (es ++ ps) xs' → Heap.ExtBut d s.heap h' → Q PUnit.unit { s with heap := h', toks := tk }) →
  wpAny (model pg w) A (forIn (pairTrees ks vs env pos) PUnit.unit fun (x : Sem Value × Sem Value) (_ : PUnit) => (do
   let kv ← x.1
   let vv ← holding [kv] x.2
   holding [kv, vv] (dictSet d kv vv)
   pure (ForInStep.yield PUnit.unit) : Sem (ForInStep PUnit))) Q E s := by
 induction T with
 | nil =>
  intro es xs s Q hP hm hx _ _ _ hq
  show wpAny _ A (forIn [] _ _) _ _ _
  rw [List.forIn_nil]
  exact wpAny_pure (hq _ xs _ hm (by simpa using hx) (Heap.ExtBut.refl _ _))
 | @cons pa pb pv e1 e2 e3 k p es' ks' vs' i1 i2 h1 h2 h3 r ih =>
  intro es xs s Q hP hm hx ha hap hl hq
  rw [List.length_cons] at hl
  obtain ⟨a1, a2⟩ := apartT_cons hap
  show wpAny _ A (forIn ((_, _) :: pairTrees ks' vs' env pos) _ _) _ _ _
  rw [List.forIn_cons]
  refine wpAny_bind (wpAny_bind (key_ok (k := k) i1 i2 h1 h2 hP fun a h' tk k1 _ ka => ?_))
  refine wpAny_bind (wpAny_holding (wpAny_bind (h3 _ _ _ _ (hP.grown k1) fun t tk2 => wpAny_bind (wpAny_standAt (wpAny_pure ?_)))))
  refine wpAny_bind (wpAny_holding (store_one hu (p := ((pa, pb), pv)) ka (DictOfH.grown hm k1) hx (ha _ List.mem_cons_self) (by omega) fun h2 xs' tk3 hm' hx' hs => wpAny_pure ?_))
  have eb : Heap.ExtBut d s.heap h2 := fun b o hb e => hs.extBut b o hb (k1 _ _ e)
  refine ih (hP.but hd eb) hm' hx' (fun q hq' r hr => ?_) a2 (by simp; omega) fun h4 xs4 tk4 hm4 hx4 e4 => ?_
  ·rcases List.mem_append.mp hr with hr | hr
   ·exact ha q (List.mem_cons_of_mem _ hq') r hr
   ·rw [List.mem_singleton.mp hr]
    exact (a1 q hq').symm
  ·exact hq h4 xs4 tk4 hm4 (by simpa using hx4) (eb.trans e4)
theorem subLong (hu : A.units < cLine) {es : List Tri} {ks : List (Option Expr)} {vs : List Expr} {pos : Pos} (T : TPs w env (KeepP h₀) es ks vs) (hl : ¬ (pairTrees ks vs env pos).length ≤ 15) (hle : es.length ≤ 100) (ha : apartT es = true) (hP : KeepP h₀ s.heap) {Q : Addr → Shared → Prop} (hq : DPost w s es Q) :
  wpAny (model pg w) A (subDict (pairTrees ks vs env pos)) Q E s := by
 unfold subDict
 refine wpAny_bind (wpAny_alloc (wpAny_bind (wpAny_holding ?_)))
 rw [if_neg hl]
 refine wpAny_bind (wpAny_rule ?_)
 refine wpAny_bind (forLong_ok hu (none_at hP) T (es := []) (xs := []) (hP.grown fun b o e => Heap.get?_push_of_some _ e) (Heap.DictOfH.new s.heap) .nil (fun _ _ _ h => by simp at h) ha (by simpa using hle) fun h2 xs tk2 hm hx hs => ?_)
 exact wpAny_pure (wpAny_pure (hq h2 xs tk2 hm hx (grown_of hs)))
end
end
end Mine
set_option maxRecDepth 100000
set_option genInjectivity false
set_option genSizeOf false
namespace Mine
open PySem PySem.W PySem.Calls PyProof.Rows PySem.SeqAt PyProof.V PySem.Spec
section
section
variable {w : World} {A : Around} {E : Value → Shared → Prop} {s : Shared} {env : Env} {h₀ : Heap}
theorem notModules {a : Addr} (hbig : sysModules < h₀.objs.size) (hP : KeepP h₀ s.heap) (h : s.heap.objs.size ≤ a) (hsz : h₀.objs.size ≤ s.heap.objs.size) : (a == sysModules) = false := beq_eq_false_iff_ne.mpr (Nat.ne_of_gt (Nat.lt_of_lt_of_le hbig (Nat.le_trans hsz h)))
theorem merge_one (hu : A.units < cLine) {d u : Addr} {p : Tri} {es : List Tri} {xs ys : List (List Str × Addr × Value)} {Q : Unit → Shared → Prop} (hus : (u == sysModules) = false) (hne : es ≠ []) (hdu : d ≠ u) (hm : s.heap.DictOfH (TK w) d xs) (hx : All2 XRel es xs) (hy : s.heap.DictOfH (TK w) u ys) (hyx : All2 XRel [p] ys)
  (ha : ∀ q ∈ es, keyOf q ≠ keyOf p) (hl : es.length ≤ 100)
  (hq : ∀ h' xs' tk, h'.DictOfH (TK w) d xs' → All2 XRel (es ++ [p]) xs' → Heap.SameBut d s.heap h' → Q () { s with heap := h', toks := tk }) : wpAny (model pg w) A (mergeMapping d (.ref u) false) Q E s := by
 have hmT := hm
 obtain ⟨o, ds, ep, ho, hc, hd, he, hk, hn⟩ := id hm
 obtain ⟨oy, dy, epy, hoy, hcy, hdy, hey, hky, hny⟩ := id hy
 replace hyx := hyx.uncons
 obtain ⟨_, _, rfl, r1, r2⟩ := hyx
 obtain rfl := r2.unnil
 rename_i y
 obtain ⟨r1, t, rt⟩ := r1
 have hes : dy = #[entryOfKey (TK w) y] := by
  obtain ⟨l⟩ := dy
  simp only [List.map_cons, List.map_nil] at hey
  rw [show l = _ from hey]
 have hxl := hx.length
 have hdl : ds.size = xs.length := size_of_entries he
 have hde : ds.isEmpty = false := by
  cases xs with
  | nil => cases es with
   | nil => exact absurd rfl hne
   | cons => simp at hxl
  | cons x xs => rw [Array.isEmpty_eq_false_iff]; intro q; rw [q] at hdl; simp at hdl
 have hk1 : IsTupleKey (strKind pg w) s.heap y.1 y.2.1 := hky y List.mem_cons_self
 have hnone : ∀ (j : Nat) (q : Addr × Value), xs[j]? ≠ some (y.1, q) := fun j q e => by
  obtain ⟨x, hx', r⟩ := hx.mem _ (List.mem_of_getElem? e)
  exact ha x hx' (r.1.symm.trans r1)
 unfold mergeMapping
 refine wpAny_bind (wpAny_isInstance hy.typeIs isSubtype_dict_dict ?_)
 simp only [if_true]
 refine wpAny_bind (wpAny_specialOf hy.typeIs F.slot_dict_iter.lookup (wpAny_bind (wpAny_pure ?_)))
 simp only [beq_self_eq_true]
 rw [hus]
 simp only [Bool.false_eq_true, if_false]
 refine wpAny_bind (wpAny_dictEntries ho hd ?_)
 rw [hde]
 simp only [Bool.false_eq_true, if_false]
 refine wpAny_bind (wpAny_dictEntries hoy hdy ?_)
 rw [hes]
 refine wpAny_bind (wpAny_dictEpoch hoy hdy ?_)
 show wpAny _ A (forIn [0] PUnit.unit _ >>= fun _ => pure ()) _ _ _
 rw [List.forIn_cons]
 refine wpAny_bind (wpAny_bind (wpAny_bind (wpAny_dictEntries hoy hdy ?_)))
 rw [hes]
 show wpAny _ A (holding _ (dictPut d ((TK w).hash y.1) (.ref y.2.1) y.2.2) >>= _) _ _ _
 refine wpAny_bind (wpAny_holding ?_)
 unfold dictPut
 refine wpAny_bind (wpAny_dictFind_heap (knd := TK w) hu hk1 ho hd he hk hn (fun _ => ?_) fun j q e => absurd e (hnone j q))
 dsimp only
 have hsb : Heap.SameBut d s.heap (s.heap.update d (Obj.mapDictKeys (·.push ⟨(TK w).hash y.1, .ref y.2.1, y.2.2⟩))) := Heap.SameBut.update ..
 refine wpAny_updateDictKeys ho hd ?_ (by rw [sizeLine_eq]; omega)
 have hoy' : (s.heap.update d (Obj.mapDictKeys (·.push ⟨(TK w).hash y.1, .ref y.2.1, y.2.2⟩))).get? u = some oy := (hsb.2 u (Ne.symm hdu)).trans hoy
 refine wpAny_bind (wpAny_dictEpoch hoy' hdy ?_)
 simp only [bne_self_eq_false, Bool.false_eq_true, if_false]
 refine wpAny_pure ?_
 dsimp only
 rw [List.forIn_nil]
 refine wpAny_pure (wpAny_pure ?_)
 have z := hq _ (xs ++ [y]) s.toks ⟨_, _, ep + 1, Heap.get?_update_self _ ho (Obj.isFreed_of_dict (Obj.data_mapDictKeys hd _)), hc.mapDictKeys _, Obj.data_mapDictKeys hd _, ?_, ?_, ?_⟩ (hx.append (.cons ⟨r1, t, rt⟩ .nil)) hsb
 ·exact z
 ·simp [he, entryOfKey]
 ·intro x hx'
  rcases List.mem_append.mp hx' with hx' | hx'
  ·exact (TK w).keeps (hk x hx') ho hd hsb
  ·rw [List.mem_singleton.mp hx']
   exact (TK w).keeps hk1 ho hd hsb
 ·rw [List.map_append, List.nodup_append]
  refine ⟨hn, by simp, fun x hx' z hz => ?_⟩
  simp only [List.map_cons, List.map_nil, List.mem_singleton] at hz
  subst hz
  obtain ⟨x', hx'', rfl⟩ := List.mem_map.mp hx'
  obtain ⟨q, hq', r⟩ := hx.mem _ hx''
  intro e
  exact ha q hq' (r.1.symm.trans (e.trans r1))
theorem forIn_gather2 (f : (Option (Sem Value) × Sem Value) → (Option Addr × List (Sem Value × Sem Value)) → Sem (ForInStep (Option Addr × List (Sem Value × Sem Value))))
  (hf : ∀ (p : Sem Value × Sem Value) (run : List (Sem Value × Sem Value)), run.length + 1 < 17 → f (some p.1, p.2) (none, run) = pure (.yield (none, run ++ [p]))) (rest : List (Option (Sem Value) × Sem Value)) :
  ∀ (items run : List (Sem Value × Sem Value)), run.length + items.length < 17 → forIn ((items.map fun p => (some p.1, p.2)) ++ rest) ((none : Option Addr), run) f = forIn rest (none, run ++ items) f
 | [], run, _ => by simp
 | p :: tl, run, h => by
  rw [List.map_cons, List.cons_append, List.forIn_cons, hf p run (by simp at h; omega), pure_bind]
  have := forIn_gather2 f hf rest tl (run ++ [p]) (by simp at h ⊢; omega)
  simpa using this
theorem dictDisplay_two (a : List (Sem Value × Sem Value)) (x y : Sem Value × Sem Value) (ha : a.length = 16) :
  dictDisplay ((a ++ [x, y]).map fun p => (some p.1, p.2)) = (do
   let d ← subDict (a ++ [x])
   let sub ← holding [.ref d] (subDict [y])
   (holding [.ref d, .ref sub] (mergeMapping d (.ref sub) false)).onRaise fun x => do let _ ← holding [.ref d, x] (runValue (.builtin "proto.let_go" {}))
   pure (.ref d)) := by
 unfold dictDisplay
 dsimp only
 rw [List.map_append]
 rw [forIn_gather2 _ (fun p run h => by
  have hne : ((run ++ [(p.1, p.2)]).length == 17) = false := by simp; omega
  simp only [hne, Bool.false_eq_true, if_false]) _ a [] (by simp; omega)]
 have h17 : ((([] : List (Sem Value × Sem Value)) ++ a ++ [(x.1, x.2)]).length == 17) = true := by simp [ha]
 have hne : (([] : List (Sem Value × Sem Value)) ++ a ++ [(x.1, x.2)]).isEmpty = false := by simp
 simp only [List.map_cons, List.map_nil, List.forIn_cons, h17, if_true, hne, Bool.false_eq_true, if_false]
 simp
end
end
end Mine
set_option maxRecDepth 100000
set_option genInjectivity false
set_option genSizeOf false
namespace Mine
open PySem PySem.W PySem.Calls PyProof.Rows PySem.SeqAt PyProof.V PySem.Spec
section
section
variable {w : World} {A : Around} {E : Value → Shared → Prop} {s : Shared} {env : Env} {h₀ : Heap} {P : Heap → Prop}
theorem TPs.len {es ks vs} (T : TPs w env P es ks vs) : ks.length = es.length ∧ vs.length = es.length ∧ ks.all (·.isSome) = true := by
 induction T with
 | nil => exact ⟨rfl, rfl, rfl⟩
 | cons _ _ _ _ _ _ ih => exact ⟨by simp [ih.1], by simp [ih.2.1], by simpa using ih.2.2⟩
theorem TPs.part {es ks vs} (T : TPs w env P es ks vs) (pos : Pos) : ∀ n, TPs w env P (es.take n) (ks.take n) (vs.take n) ∧ TPs w env P (es.drop n) (ks.drop n) (vs.drop n) ∧
  pairTrees (ks.take n) (vs.take n) env pos = (pairTrees ks vs env pos).take n ∧ pairTrees (ks.drop n) (vs.drop n) env pos = (pairTrees ks vs env pos).drop n := by
 induction T with
 | nil => intro n; rw [List.take_nil, List.take_nil, List.take_nil, List.drop_nil, List.drop_nil, List.drop_nil]; exact ⟨.nil, .nil, List.take_nil.symm, List.drop_nil.symm⟩
 | cons i1 i2 h1 h2 h3 r ih =>
  intro n
  cases n with
  | zero => exact ⟨.nil, .cons i1 i2 h1 h2 h3 r, rfl, rfl⟩
  | succ n =>
   obtain ⟨a, b, c, d⟩ := ih n
   refine ⟨.cons i1 i2 h1 h2 h3 a, b, ?_, d⟩
   show _ :: pairTrees _ _ env pos = (_ :: pairTrees _ _ env pos).take (n + 1)
   rw [List.take_succ_cons, c]
theorem TPs.trees {es ks vs} (T : TPs w env P es ks vs) (pos : Pos) : (pairTrees ks vs env pos).length = es.length := by
 obtain ⟨a, b, c⟩ := T.len
 rw [pairTrees_length _ _ _ _ c (by rw [a, b]), a]
theorem apartT_take : ∀ {es : List Tri} (n : Nat), apartT es = true → apartT (es.take n) = true ∧ ∀ p ∈ es.drop n, ∀ q ∈ es.take n, keyOf q ≠ keyOf p
 | [], n, _ => by simp; rfl
 | p :: r, 0, h => ⟨rfl, by simp⟩
 | p :: r, n + 1, h => by
  have h' := h
  change an (@List.rec Tri (fun _ => Bool) true _ r) (apartT r) = true at h'
  obtain ⟨h1, h2⟩ := an_true h'
  obtain ⟨a, b⟩ := apartT_take (es := r) n h2
  have hd := apart_head h1
  refine ⟨?_, fun x hx q hq => ?_⟩
  ·rw [List.take_succ_cons]
   show an (@List.rec Tri (fun _ => Bool) true _ (r.take n)) (apartT (r.take n)) = true
   have key : ∀ l : List Tri, (∀ q ∈ l, keyOf q ≠ keyOf p) → @List.rec Tri (fun _ => Bool) true (fun q _ ih => br (Nat.beq q.1.1 p.1.1) (br (Nat.beq q.1.2 p.1.2) false ih) ih) l = true := by
    intro l
    induction l with
    | nil => intro _; rfl
    | cons x l ih =>
     intro hl
     show br (Nat.beq x.1.1 p.1.1) (br (Nat.beq x.1.2 p.1.2) false _) _ = true
     have ihl := ih fun q hq => hl q (List.mem_cons_of_mem _ hq)
     rw [BT.beq_eq, BT.beq_eq]
     by_cases e1 : x.1.1 = p.1.1
     ·by_cases e2 : x.1.2 = p.1.2
      ·exact absurd (by simp [keyOf, e1, e2]) (hl x List.mem_cons_self)
      ·simpa [e1, e2] using ihl
     ·simpa [e1] using ihl
   rw [key _ fun q hq => hd q (List.mem_of_mem_take hq), a]; rfl
  ·rw [List.drop_succ_cons] at hx
   rw [List.take_succ_cons] at hq
   rcases List.mem_cons.mp hq with rfl | hq
   ·exact (hd x (List.mem_of_mem_drop hx)).symm
   ·exact b x hx q hq
theorem two_of {α : Type} {l : List α} (h : l.length = 2) : ∃ x y, l = [x, y] := by
 rcases l with _ | ⟨x, _ | ⟨y, _ | ⟨z, l⟩⟩⟩
 ·cases h
 ·cases h
 ·exact ⟨x, y, rfl⟩
 ·simp at h
theorem split18 {α : Type} {l : List α} (h : l.length = 18) : ∃ a x y, l = a ++ [x, y] ∧ a.length = 16 ∧ l.take 17 = a ++ [x] ∧ l.drop 17 = [y] := by
 obtain ⟨x, y, e⟩ := two_of (l := l.drop 16) (by rw [List.length_drop, h])
 have ha : (l.take 16).length = 16 := by rw [List.length_take, h]; rfl
 have el : l = l.take 16 ++ [x, y] := by rw [← e, List.take_append_drop]
 refine ⟨l.take 16, x, y, el, ha, ?_, ?_⟩
 ·have z : (l.take 16 ++ [x, y]).take 17 = l.take 16 ++ [x] := by
   rw [List.take_append, ha, List.take_of_length_le (by rw [ha]; decide)]; rfl
  rw [← el] at z; exact z
 ·have z : (l.take 16 ++ [x, y]).drop 17 = [y] := by
   rw [List.drop_append, ha, List.drop_of_length_le (by rw [ha]; decide)]; rfl
  rw [← el] at z; exact z
noncomputable abbrev VPost (w : World) (s : Shared) (es : List Tri) (Q : Value → Shared → Prop) : Prop :=
 ∀ a h' xs tk, s.heap.objs.size ≤ a → h'.DictOfH (TK w) a xs → All2 XRel es xs → (∀ b o, s.heap.get? b = some o → h'.get? b = some o) → Q (.ref a) { s with heap := h', toks := tk }
theorem dict_short (hu : A.units < cLine) {es : List Tri} {ks : List (Option Expr)} {vs : List Expr} {pos : Pos} (T : TPs w env (KeepP h₀) es ks vs) (h0 : es ≠ []) (hl : es.length ≤ 15) (ha : apartT es = true) (hP : KeepP h₀ s.heap) {Q : Value → Shared → Prop} (hq : VPost w s es Q) :
  wpAny (model pg w) A (eval (.Dict ks vs pos) env) Q E s := by
 obtain ⟨l1, l2, l3⟩ := T.len
 have hn := T.trees pos
 have hp0 : pairTrees ks vs env pos ≠ [] := fun he => by rw [he] at hn; exact h0 (List.length_eq_zero_iff.mp hn.symm)
 rw [arm_eval_Dict, zip_pairTrees ks vs env pos l3 (by rw [l1, l2]), dictDisplay_pairs _ hp0 (by rw [hn]; omega)]
 refine wpAny_bind (wpAny_standAt (wpAny_bind (subShort hu T (by rw [hn]; exact hl) (by omega) ha hP fun h' xs tk hm hx hk => wpAny_pure ?_)))
 exact hq _ h' xs tk (Nat.le_refl _) hm hx hk
theorem dict_long (hu : A.units < cLine) {es : List Tri} {ks : List (Option Expr)} {vs : List Expr} {pos : Pos} (T : TPs w env (KeepP h₀) es ks vs) (hl : es.length = 18) (ha : apartT es = true) (hP : KeepP h₀ s.heap) (hbig : sysModules < h₀.objs.size) (hsz : h₀.objs.size ≤ s.heap.objs.size) {Q : Value → Shared → Prop} (hq : VPost w s es Q) :
  wpAny (model pg w) A (eval (.Dict ks vs pos) env) Q E s := by
 obtain ⟨l1, l2, l3⟩ := T.len
 have hn := T.trees pos
 obtain ⟨T1, T2, e1, e2⟩ := T.part pos 17
 obtain ⟨a1, a2⟩ := apartT_take 17 ha
 obtain ⟨a, x, y, q1, q2, q3, q4⟩ := split18 (hn.trans hl)
 obtain ⟨ea, ex, ey, p1, p2, p3, p4⟩ := split18 hl
 rw [arm_eval_Dict, zip_pairTrees ks vs env pos l3 (by rw [l1, l2]), q1, dictDisplay_two a x y q2]
 refine wpAny_bind (wpAny_standAt (wpAny_bind ?_))
 rw [← q3, ← e1]
 have t17 : (es.take 17).length = 17 := by simp [hl]
 refine subLong hu T1 (by rw [e1, q3]; simp [q2]) (by omega) a1 hP fun h' xs tk hm hx hk => ?_
 have hP' := hP.grown hk
 refine wpAny_bind (wpAny_holding ?_)
 rw [← q4, ← e2]
 have t1 : (es.drop 17).length = 1 := by simp [hl]
 refine subShort hu T2 (by rw [e2, q4]; simp) (by omega) (by rw [p4]; rfl) hP' fun h2 ys tk2 hm2 hy hk2 => ?_
 have hd1 : s.heap.objs.size < h'.objs.size := by obtain ⟨o, es', ep, ho, _⟩ := hm; exact Heap.lt_size ho
 rw [p4] at hy
 refine wpAny_bind (wpAny_onRaise (wpAny_holding (merge_one hu (p := ey) (es := es.take 17) ?_ ?_ (Nat.ne_of_lt hd1) (DictOfH.grown hm hk2) hx hm2 hy (fun q hq' => a2 ey (by rw [p4]; exact List.mem_cons_self) q hq') (by omega) fun h3 zs tk3 hm3 hz hs => wpAny_pure ?_)))
 ·exact beq_eq_false_iff_ne.mpr (Nat.ne_of_gt (Nat.lt_of_lt_of_le hbig (Nat.le_trans hsz (Nat.le_of_lt hd1))))
 ·intro q; rw [q] at t17; simp at t17
 ·have ez : es.take 17 ++ [ey] = es := by rw [← p4, List.take_append_drop]
  rw [ez] at hz
  exact hq _ h3 zs tk3 (Nat.le_refl _) hm3 hz fun b o e => hs.extBut b o (Nat.ne_of_lt (Heap.lt_size e)) (hk2 _ _ (hk _ _ e))
theorem get_rel {es : List Tri} {xs : List (List Str × Addr × Value)} (h : All2 XRel es xs) (a b : Nat) : ∃ v, ((atKey xs [nm a, nm b]).map (·.2)).getD .none = v ∧ ∀ π g, RelV π g (tget a b es) v := by
 induction h with
 | nil => exact ⟨.none, rfl, fun _ _ => rfl⟩
 | @cons p x ps xs r _ ih =>
  obtain ⟨r1, t, rt⟩ := r
  show ∃ v, ((((x :: xs).find? fun x => decide (x.1 = [nm a, nm b])).map (·.2)).map (·.2)).getD .none = v ∧ ∀ π g, RelV π g (br (Nat.beq p.1.1 a) (br (Nat.beq p.1.2 b) (.str p.2) (tget a b ps)) (tget a b ps)) v
  rw [BT.beq_eq, BT.beq_eq]
  by_cases e1 : p.1.1 = a
  ·by_cases e2 : p.1.2 = b
   ·have : x.1 = [nm a, nm b] := by rw [r1, ← e1, ← e2]
    rw [List.find?_cons_of_pos (by simp [this])]
    exact ⟨.str (nm p.2) t, by simp [rt], fun π g => by simp only [e1, e2, decide_true, br_t]; exact ⟨t, Nat.zero_le _, rfl⟩⟩
   ·have : ¬ x.1 = [nm a, nm b] := fun q => by rw [r1] at q; injection q with q1 q2; injection q2 with q2 _; exact e2 (nm_inj q2)
    rw [List.find?_cons_of_neg (by simp [this])]
    simp only [e1, e2, decide_true, decide_false, br_t, br_f]
    exact ih
  ·have : ¬ x.1 = [nm a, nm b] := fun q => by rw [r1] at q; injection q with q1 q2; exact e1 (nm_inj q1)
   rw [List.find?_cons_of_neg (by simp [this])]
   simp only [e1, decide_false, br_f]
   exact ih
end
end
end Mine
set_option maxRecDepth 100000
set_option genInjectivity false
set_option genSizeOf false
namespace Mine
open PySem PySem.W PySem.Calls PyProof.Rows PySem.SeqAt PyProof.V PySem.Spec
open PySem.MeetsSeq (EqGives)
section
theorem apartN_nodup : ∀ {ns : List Nat}, apartN ns = true → (ns.map nm).Nodup
 | [], _ => List.nodup_nil
 | n :: r, h => by
  refine an_el (show an (@List.rec Nat (fun _ => Bool) true (fun q _ ih => br (Nat.beq q n) false ih) r) (apartN r) = true from h) ?_; intro h1 h2
  rw [List.map_cons]
  refine List.nodup_cons.mpr ⟨fun hm => ?_, apartN_nodup h2⟩
  obtain ⟨q, hq, e⟩ := List.mem_map.mp hm
  have e' := nm_inj e
  subst e'
  have key : ∀ l : List Nat, q ∈ l → @List.rec Nat (fun _ => Bool) true (fun x _ ih => br (Nat.beq x q) false ih) l = true → False := by
   intro l
   induction l with
   | nil => intro h; simp at h
   | cons x l ih =>
    intro hm h
    change br (Nat.beq x q) false _ = true at h
    obtain ⟨b1, b2⟩ := br_false h
    rcases List.mem_cons.mp hm with rfl | hm
    ·rw [BT.beq_eq] at b1; simp at b1
    ·exact ih hm b2
  exact key r hq h1
section
variable {c : Cx} {K : Frag} {A : Around} {E : Value → Shared → Prop} {g : Ow} {σ : XSt} {s : Shared} {env : Env} {ns : Nk} {n : Nat}
theorem says_const {w : World} {env : Env} {P : Heap → Prop} {x : Nat} {k p} : Says w env P (.Constant (.str (nm x)) k p) (nm x) := fun A E s Q hP hq => fun _ _ _ => hq s.toks (s.toks + 1)
theorem pairs_texts {w : World} {π : Pi} {pos : Pos} : ∀ {ks vs : List Nat} {keys : List (Option Expr)} {values : List Expr}, KSt ks keys → VSt vs values → ks.length = vs.length → ∀ {s : Shared} {Q : List (Value × Value) → Shared → Prop},
  (∀ l kvs tk, Carries (strKind pg w) l kvs → All2 (RelS π g) (ks.zip (vs.map XV.str)) kvs → kvs.map (·.1) = ks.map nm → Q l { s with toks := tk }) → wpAny (model pg w) A (evalPairs (pairTrees keys values env pos)) Q E s
 | _, _, _, _, .nil, .nil, _, s, Q, hq => evalPairs_nil (hq [] [] s.toks trivial .nil rfl)
 | _, _, _, _, .nil, .cons _, h, _, _, _ => nomatch h
 | _, _, _, _, .cons _, .nil, h, _, _, _ => nomatch h
 | _, _, _, _, @KSt.cons n1 _ _ ns _ k1, @VSt.cons n2 _ _ vs _ v1, h, s, Q, hq => by
  refine evalPairs_cons (says_const (P := fun _ => True) _ _ _ _ trivial fun t tk => ?_)
  refine wpAny_bind (says_const (P := fun _ => True) _ _ _ _ trivial fun t2 tk2 => wpAny_bind (wpAny_standAt (wpAny_pure ?_)))
  refine pairs_texts (π := π) k1 v1 (by simpa using h) fun l kvs tk3 c a e => ?_
  exact hq _ ((nm n1, .str (nm n2) t2) :: kvs) tk3 ⟨strKind_is pg w _ t, rfl, c⟩ (.cons ⟨rfl, t2, Nat.zero_le _, rfl⟩ a) (by rw [List.map_cons, e]; rfl)
theorem KSt.all {ks keys} (h : KSt ks keys) : keys.all (·.isSome) = true ∧ keys.length = ks.length := by
 induction h with
 | nil => exact ⟨rfl, rfl⟩
 | cons _ ih => exact ⟨by simpa using ih.1, by simp [ih.2]⟩
theorem VSt.len {vs values} (h : VSt vs values) : values.length = vs.length := by
 induction h with
 | nil => rfl
 | cons _ ih => simp [ih]
theorem dics_ok {ks vs : List Nat} {keys : List (Option Expr)} {values : List Expr} {p : Pos} {k : KV} (h : allocX (.sdict (ks.zip (vs.map XV.str))) σ (fun i σ => k (.own i) σ) = true) (m1 : KSt ks keys) (m2 : VSt vs values) (hl : ks.length = vs.length) (h0 : ks ≠ []) (h15 : ks.length ≤ 15) (ha : apartN ks = true) (I : Is c g σ s) :
  wpAny (model pg c.w) A (eval (.Dict keys values p) env) (Po c g (RelV c.π) k) E s := by
 obtain ⟨m, news, I'⟩ := I
 obtain ⟨a1, a2⟩ := m1.all
 have a3 := m2.len
 have hn : (pairTrees keys values env p).length = ks.length := by rw [pairTrees_length _ _ _ _ a1 (by rw [a2, a3, hl]), a2]
 refine wpAny_Dict_pairs (knd := strKind pg c.w) (zip_pairTrees keys values env p a1 (by rw [a2, a3, hl])) (fun e => ?_) (by rw [hn]; exact h15) (pairs_texts (π := c.π) (g := g) m1 m2 hl fun l kvs tk cr al e => ?_)
 ·rw [e] at hn; exact h0 (List.length_eq_zero_iff.mp hn.symm)
 ·refine ⟨kvs, cr, Heap.DictOf.new _, fun h' hm hs => ?_⟩
  rw [merged_nil_of_nodup kvs (by rw [e]; exact apartN_nodup ha)] at hm
  obtain ⟨ob, ho, hd⟩ := Heap.dictOf_iff.mp hm
  have hk : ∀ b o, s.heap.get? b = some o → h'.get? b = some o := fun b o e => hs.extBut b o (Nat.ne_of_lt (Heap.lt_size e)) (Heap.get?_push_of_some _ e)
  have hsz : c.h₀.get? s.heap.objs.size = none := none_at (h := s.heap) fun b o e => I'.fr.keep b o e
  have F := I'.fr.keeps hk
  have N : News c.h₀ c.L h' ((s.heap.objs.size, ob) :: news) := fun q hq => by
   rcases List.mem_cons.mp hq with rfl | hq
   ·exact ⟨ho, Ne.symm (Nat.ne_of_lt I'.fr.ns.lt), hsz⟩
   ·exact ⟨hk _ _ (I'.nw q hq).1, (I'.nw q hq).2⟩
  exact I'.alloc (ob := ob) h F N I'.sizes ⟨kvs, hd, al.mono fun _ _ r => ⟨r.1, r.2.grow (Grow.snoc g _)⟩⟩ (Nat.zero_le _)
end
inductive SStr (ns : Nk) : Nat → Expr → Prop
 | k {n k p} : SStr ns n (.Constant (.str (nm n)) k p)
 | g {n x p} : ns.lookup (nm x) = some .globalImplicit → okName (nm x) → tab.globs.get x = some (.str n) → SStr ns n (.Name (nm x) p)
inductive SPs (ns : Nk) : List Tri → List (Option Expr) → List Expr → Prop
 | nil : SPs ns [] [] []
 | cons {a b v e1 e2 e3 k p es ks vs} : SStr ns a e1 → SStr ns b e2 → SStr ns v e3 → SPs ns es ks vs → SPs ns (((a, b), v) :: es) (some (.Tuple [e1, e2] k p) :: ks) (e3 :: vs)
structure TabAt (K : Frag) (a : Addr) (es : List Tri) (o : Obj) (fd : FuncData) (keys : List (Option Expr)) (values : List Expr) (p p' : Pos) : Prop where
 at_ : K.lookup a = some o
 dat : o.data = .func fd
 bod : fd.body = .stmts [.Return (some (.Dict keys values p)) p']
 ms : SPs fd.scope.names es keys values
 kin : fd.scope.kind = .function
 co : fd.scope.isCoroutine = false
 gn : fd.scope.isGenerator = false
 cel : ∀ x ∈ fd.scope.names, x.2 ≠ .cell
 glb : fd.globals = mainGlobals
 blt : fd.builtins = builtinsNs
 cod : codeIn K fd.code fd.qualname = true
 apt : apartT es = true
 ne : es ≠ []
 len : es.length ≤ 15 ∨ es.length = 18
 kep : keepIn K (.ref a) = true
 bin : ∀ s, BindsTo s fd ⟨[], []⟩ []
structure TabFn (K : Frag) (a : Addr) (es : List Tri) : Prop where
 ex : ∃ o fd keys values p p', TabAt K a es o fd keys values p p'
structure TabsOk (K : Frag) : Prop where
 ok : ∀ a es, tab.tabs.get a = some es → TabFn K a es
theorem SStr.star {ns x e} (h : SStr ns x e) : isStar e = false := by cases h <;> rfl
section
variable {c : Cx} {K : Frag} {A : Around} {E : Value → Shared → Prop} {g : Ow} {σ : XSt} {s : Shared} {env : Env} {ns : Nk} {n : Nat}
theorem SStr.says {x e} (G : Globs c) (Ev : EnvOk c env) (hn : env.scope.names = ns) (h : SStr ns x e) : Says c.w env (KeepP c.h₀) e (nm x) := by
 cases h with
 | k => exact says_const
 | g hl hd he =>
  intro A E s Q hP hq
  obtain ⟨mg, mb, g1, g2, g3⟩ := G.ns
  obtain ⟨u, hu, r⟩ := g3 _ _ he
  obtain ⟨t, _, rfl⟩ := r c.π []
  refine Name_function_global Ev.kind (by show env.scope.names.lookup _ = _; rw [hn]; exact hl) ?_ hd
  rcases hu with hu | ⟨hu, hb⟩
  ·exact loadGlobal_global (by rw [Ev.glb]; exact g1.keeps hP) hu (hq t _)
  ·exact loadGlobal_builtin (by rw [Ev.glb]; exact g1.keeps hP) hu (by rw [Ev.blt]; exact g2.keeps hP) hb (hq t _)
theorem SPs.says {es ks vs} (G : Globs c) (Ev : EnvOk c env) (hn : env.scope.names = ns) (h : SPs ns es ks vs) : TPs c.w env (KeepP c.h₀) es ks vs := by
 induction h with
 | nil => exact .nil
 | cons h1 h2 h3 _ ih => exact .cons h1.star h2.star (h1.says G Ev hn) (h2.says G Ev hn) (h3.says G Ev hn) ih
theorem tabFn_ok (B : Base c) (G : Globs c) (S : Stat c K) (hbig : sysModules < c.h₀.objs.size) {a : Addr} {es : List Tri} (T : TabFn K a es) (hd : A.depth < recursionLimit) (hu : A.units + 3 < cLine) (I : Is c g σ s) :
  codeAny (model pg c.w) A (.call (.ref a) ⟨[], []⟩) (RetP fun v s' => ∃ d xs, v = .ref d ∧ s'.heap.DictOfH (TK c.w) d xs ∧ All2 XRel es xs ∧ (d == sysModules) = false ∧ Is c g σ s') s := by
 obtain ⟨o, fd, keys, values, p, p', k1, k2, k3, k4, k5, k6, k7, k8, k9, k10, k11, k12, k13, k14, k15, k16⟩ := T.ex
 obtain ⟨m, news, I'⟩ := I
 have X := S.kin.keeps I'.fr.keep
 refine codeAny_call_def hd (X _ _ k1) k2 (B.lim.keeps I'.fr.keep) (codeRec_of X k11) k3 (k16 s) k8 (fun x hx => by simp at hx) (fun h₀ hns hk => ?_) k6 k7 k5
 obtain ⟨oL, es', ep, d1, I2⟩ := I'.enter (bs := []) hns hk (Nat.zero_le _) (fun y x e => nomatch e)
 have hL : c.h₀.objs.size ≤ s.heap.objs.size := Nat.le_trans I'.fr.above (Nat.le_of_lt I'.fr.ns.lt)
 have T' := k4.says (c := c.into oL s.heap.objs.size) (G.into oL _) (env := callEnv fd s.heap.objs.size a) ⟨k5, rfl, k9, k10⟩ rfl
 have hP : KeepP c.h₀ h₀ := fun b o e => I2.fr.keep b o e
 have hsz : c.h₀.objs.size ≤ h₀.objs.size := Nat.le_trans hL (Nat.le_of_lt hns.lt)
 have post : VPost c.w { s with heap := h₀, toks := s.toks + ([] : List (Str × Value)).length } es (fun v s' => ∃ d xs, v = .ref d ∧ s'.heap.DictOfH (TK c.w) d xs ∧ All2 XRel es xs ∧ (d == sysModules) = false ∧ Is c g σ s') := by
  intro d h' xs tk hd' hm hx hk'
  have I3 := I2.grown (h' := h') (t := tk) hk'
  have I4 := I3.leave d1.2 I'.fr.above I'.heldNe I'.loc (Grow.refl g)
  exact ⟨d, xs, rfl, hm, hx, beq_eq_false_iff_ne.mpr (Nat.ne_of_gt (Nat.lt_of_lt_of_le hbig (Nat.le_trans hsz hd'))), m, _, I4⟩
 refine wpAny_execs_cons (wpAny_Return_some ?_)
 rcases k14 with h15 | h18
 ·refine dict_short (s := { s with heap := h₀, toks := s.toks + ([] : List (Str × Value)).length }) (h₀ := c.h₀) (by show A.units + 3 < cLine; exact hu) T' k13 h15 k12 hP fun d h' xs tk a1 a2 a3 a4 => post d h' xs tk a1 a2 a3 a4
 ·refine dict_long (s := { s with heap := h₀, toks := s.toks + ([] : List (Str × Value)).length }) (h₀ := c.h₀) (by show A.units + 3 < cLine; exact hu) T' h18 k12 hP hbig hsz fun d h' xs tk a1 a2 a3 a4 => post d h' xs tk a1 a2 a3 a4
theorem tg_ok (TO : TabsOk K) (B : Base c) (G : Globs c) (S : Stat c K) (hbig : sysModules < c.h₀.objs.size) (Ev : EnvOk c env) (hn : env.scope.names = ns) (hA : AOk A (n + 1)) {f x y : Nat} {e : Expr} {k : KV} (h : tgX tab f x y σ k = true) (m : ME ns (.tg f x y) e) (I : Is c g σ s) :
  wpAny (model pg c.w) A (eval e env) (Po c g (RelV c.π) k) E s := by
 cases m with
 | tg hf hfd hsup hx hxd hy hyd ha hpos =>
  rename_i pf p1 q px py kk p2 a p
  subst ha
  unfold tgX at h
  split at h
  ·rename_i ad e1
   split at h
   ·rename_i es e2
    split at h
    ·rename_i u e3
     split at h
     ·rename_i v e4
      have m2 : MEs ns (.cons (.tup (.cons (.loc x) (.cons (.loc y) .nil))) .nil) [.Tuple [.Name (nm x) px, .Name (nm y) py] kk p2] := .cons (.tup (.cons (.loc hx hxd) (.cons (.loc hy hyd) .nil))) .nil
      rw [met_eq m2 (o := .Call (.Name (nm f) pf) [] [] p1) hsup (by show 1 < 30; omega) hpos]
      have T := TO.ok _ _ e2
      obtain ⟨o, fd, keys, values, pp, pp', k1, k2, k3, k4, k5, k6, k7, k8, k9, k10, k11, k12, k13, k14, k15, k16⟩ := T.ex
      obtain ⟨mg, mb, g1, g2, g3⟩ := G.ns
      obtain ⟨vf, hu, r⟩ := g3 _ _ e1
      have rf : vf = .ref ad := r c.π []
      subst rf
      have e0 : eval (.Call (.Name (nm f) pf) [] [] p1) env = (do callWith p1 (← eval (.Name (nm f) pf) env) [] (backTo p1 (starEach [] env)) (backToKw p1 (keywordEach [] env))) := rfl
      rw [e0]
      refine Is.el I ?_; intro mm news I'
      have hun := hA.un
      have hdp := hA.dp
      refine wpAny_bind (wpAny_bind ?_)
      refine Name_function_global (s := s) Ev.kind (by show env.scope.names.lookup _ = _; rw [hn]; exact hf) ?_ hfd
      have step : wpAny (model pg c.w) A (callWith p1 (.ref ad) [] (backTo p1 (starEach [] env)) (backToKw p1 (keywordEach [] env))) (fun a s' => wpAny (model pg c.w) A (do
        standAt q.atName
        let (f, first) ← holding [a] (getMethod a ("get" : Str) (do return (← importBound (.Call (.Name (nm f) pf) [] [] p1) env).getD true))
        callWith p f first (backTo p (starEach [.Tuple [.Name (nm x) px, .Name (nm y) py] kk p2] env)) (backToKw p (keywordEach [] env))) (Po c g (RelV c.π) k) E s') E s := by
       refine callWith_of (P := fun hp => KeepP c.h₀ hp) rfl (fun hp hk => keeps_K k15 _ (S.kin.keeps hk)) (evalArgs_nil3 ⟨fun b o e => I'.fr.keep b o e, wpAny_call (codeAny_mono (tabFn_ok B G S hbig T (by show A.depth < 1000; omega) (by show A.units + 3 < 9900; omega) I) fun res s' hr => ?_)⟩)
       cases res with
       | error e => exact hr.elim
       | ok fl =>
        cases fl with
        | ret v' =>
         obtain ⟨d, xs, rfl, hm, hxr, hmod, I1⟩ := hr
         show wpAny _ A _ _ E s'
         refine wpAny_bind (wpAny_standAt (wpAny_bind (wpAny_holding (getMethod_builtin hm.typeIs PySem.F.plainAttrs_dict PySem.F.slot_dict_get PySem.F.type_dict_get (dictOfH_noDict hm) ?_))))
         show wpAny _ A (callWith p (.builtin "dict.get") [.ref d] _ _) _ E s'
         refine callWith_of (P := fun _ => True) ?_ (fun hp _ => keeps_plain rfl hp) ?_
         ·rfl
         ·refine Is.el I1 ?_; intro m1 news1 I1'
          obtain ⟨vu, l1, ru⟩ := I1'.loc x _ e3
          obtain ⟨tu, _, rfl⟩ := ru
          obtain ⟨vv, l2, rv⟩ := I1'.loc y _ e4
          obtain ⟨tv, _, rfl⟩ := rv
          have sx : Says c.w env (fun h => h.Ns c.L m1) (.Name (nm x) px) (nm u) := fun A' E' s2 Q' hP hq => wpAny_Name (wpAny_loadName_local Ev.kind (by show env.scope.names.lookup _ = _; rw [hn]; exact hx) (by rw [Ev.loc]; exact hP) l1 (hq tu s2.toks)) hxd
          have sy : Says c.w env (fun h => h.Ns c.L m1) (.Name (nm y) py) (nm v) := fun A' E' s2 Q' hP hq => wpAny_Name (wpAny_loadName_local Ev.kind (by show env.scope.names.lookup _ = _; rw [hn]; exact hy) (by rw [Ev.loc]; exact hP) l2 (hq tv s2.toks)) hyd
          refine evalArgs_plain (x := eval (.Tuple [.Name (nm x) px, .Name (nm y) py] kk p2) env) (rest := []) (spliced_cons (key_ok (P := fun h => h.Ns c.L m1) rfl rfl sx sy I1'.fr.ns fun a' h' tk hk _ ka => spliced_nil ⟨trivial, ?_⟩))
          obtain ⟨rv, q1, q2⟩ := get_rel hxr u v
          refine call_meetsIn PySem.F.slot_dict_get (DictOfH.grown hm hk).typeIs PySem.F.entry_dict_get (PySem.F.args_dict_get_2 _ _) (meetsH_dict_get (TK c.w) d a' hmod) ⟨tupleKind_room_in1 (by show A.units + 1 < 9900; omega), _, xs, ka, DictOfH.grown hm hk, ?_⟩
          rw [q1]
          exact Po.now h (q2 _ _) (I1.grown hk)
        | _ => exact hr.elim
      rcases hu with hu | ⟨hu, hb⟩
      ·exact loadGlobal_global (by rw [Ev.glb]; exact g1.keeps I'.fr.keep) hu step
      ·exact loadGlobal_builtin (by rw [Ev.glb]; exact g1.keeps I'.fr.keep) hu (by rw [Ev.blt]; exact g2.keeps I'.fr.keep) hb step
     ·cases h
    ·cases h
   ·cases h
  ·cases h
end
end
end Mine
set_option maxRecDepth 100000
set_option genInjectivity false
set_option genSizeOf false
namespace Mine
open PySem PySem.W PySem.Calls PyProof.Rows PySem.SeqAt PyProof.V PySem.Spec PyProof.Rows.LCg
open PySem.MeetsSeq (EqGives)
section
noncomputable def PoM {β : Type} (c : Cx) (g : Ow) (m : Str → Option Value) (R : Ow → β → Value → Prop) (k : β → XSt → Bool) (a : Value) (s : Shared) : Prop :=
 ∃ b σ g' news, k b σ = true ∧ Grow g g' ∧ R g' b a ∧ Inv c g' m news σ s
noncomputable def SCm (K : Frag) (n : Nat) : Prop := ∀ {a : Addr} {xs : List XV} {σ : XSt} {k : KV}, (ev tab n).c a xs σ k = true → ∀ {c : Cx} {g : Ow} {m : Str → Option Value} {news : List (Addr × Obj)} {s : Shared} {A : Around} {vs : List Value}, Base c → Globs c → Stat c K → AOk A n → Inv c g m news σ s → RelL c.π g xs vs →
 codeAny (model pg c.w) A (.call (.ref a) ⟨vs, []⟩) (RetP (PoM c g m (RelV c.π) k)) s
section
variable {K : Frag} {n : Nat}
theorem cm_ok (F : ∀ {c : Cx}, Base c → Globs c → Stat c K → Funs c K) (hs : SSs K n) : SCm K (n + 1) := by
 intro a args σ k h c g m news s A vs B G S hA I' r
 change stepC tab (ev tab n) a args σ k = true at h
 unfold stepC at h
 split at h
 ·rename_i fi e1
  unfold bodyX at h
  split at h
  ·rename_i bs e2
   obtain ⟨o, fd, body, k1, k2, k3, k4, k5, k6, k7, k8, k9, k10, k11, k12⟩ := ((F B G S).ok a fi e1).ex
   obtain ⟨binds, b1, b2, b3⟩ := k12 c.π g args bs vs s e2 r I'.fr.keep
   have X := S.kin.keeps I'.fr.keep
   refine codeAny_call_def hA.deep (X _ _ k1) k2 (B.lim.keeps I'.fr.keep) (codeRec_of X k11) k3 b1 k8 b2 (fun h₀ hns hk => ?_) k6 k7 k5
   obtain ⟨oL, es, ep, d1, I2⟩ := I'.enter hns hk (Nat.zero_le _) b3
   refine wpAny_mono (hs h k4 (B.into oL _) (G.into oL _) (S.into oL _) (c := c.into oL s.heap.objs.size) (env := callEnv fd s.heap.objs.size a) ⟨k5, rfl, k9, k10⟩ rfl (hA.deeper _) ⟨_, _, I2⟩) (fun fl s' q => ?_) fun _ _ e => e
   obtain ⟨f, σ', g', h', G', rf, m', news', I3⟩ := q
   have I4 := I3.leave d1.2 I'.fr.above I'.heldNe I'.loc G'
   cases f with
   | next =>
    cases fl with
    | next => exact ⟨_, _, g', _, h', G', rfl, I4⟩
    | _ => exact rf.elim
   | ret x =>
    cases fl with
    | ret v => exact ⟨_, _, g', _, h', G', rf, I4⟩
    | _ => exact rf.elim
  ·cases h
 ·cases h
end
noncomputable def Cx.hold (c : Cx) (p : Addr × Obj) : Cx := { c with H := p :: c.H }
theorem Base.hold {c : Cx} (B : Base c) (p : Addr × Obj) : Base (c.hold p) := ⟨B.sys, B.lim⟩
theorem Globs.hold {c : Cx} (B : Globs c) (p : Addr × Obj) : Globs (c.hold p) := ⟨B.ns⟩
theorem Stat.hold {c : Cx} {K : Frag} (B : Stat c K) (p : Addr × Obj) : Stat (c.hold p) K := ⟨B.kin, B.cls, B.fns⟩
theorem Base.big {c : Cx} (B : Base c) : sysModules < c.h₀.objs.size := by obtain ⟨o, h⟩ := B.sys; exact Heap.lt_size h
section
variable {c : Cx} {K : Frag} {A : Around} {E : Value → Shared → Prop} {g : Ow} {m : Str → Option Value} {news : List (Addr × Obj)} {σ : XSt} {s : Shared} {env : Env} {ns : Nk} {n : Nat}
theorem Inv.move (I : Inv c g m news σ s) {h : Heap} {tk : Nat} (F : Fr c.h₀ c.L h m) (N : News c.h₀ c.L h news) : Inv c g m news σ { s with heap := h, toks := tk } :=
 ⟨F, N, I.held, I.uniq, I.nx, I.cap, I.nodup, I.apart, I.mine, I.own, I.loc, I.cs, Nat.zero_le _, I.gens, I.drawn, I.os⟩
theorem Inv.hold (I : Inv c g m news σ s) {p : Addr × Obj} (N : News c.h₀ c.L s.heap [p]) (hn : ∀ q ∈ news, q.1 ≠ p.1) : Inv (c.hold p) g m (p :: news) σ s := by
 refine ⟨I.fr, fun q hq => ?_, fun q hq => ?_, ?_, I.nx, I.cap, I.nodup, fun a ha q hq => ?_, fun a ha => ?_, fun i o hi => ?_, I.loc, I.cs, I.toks, I.gens, I.drawn, I.os⟩
 ·rcases List.mem_cons.mp hq with rfl | hq
  ·exact N _ List.mem_cons_self
  ·exact I.nw q hq
 ·rcases List.mem_cons.mp hq with rfl | hq
  ·exact List.mem_cons_self
  ·exact List.mem_cons_of_mem _ (I.held q hq)
 ·rw [List.map_cons]
  refine List.nodup_cons.mpr ⟨fun hm => ?_, I.uniq⟩
  obtain ⟨q, hq, e⟩ := List.mem_map.mp hm
  exact hn q hq e
 ·rcases List.mem_cons.mp hq with rfl | hq
  ·obtain ⟨o, ho⟩ := I.mine a ha
   exact fun e => hn _ ho e.symm
  ·exact I.apart a ha q hq
 ·obtain ⟨o, ho⟩ := I.mine a ha
  exact ⟨o, List.mem_cons_of_mem _ ho⟩
 ·obtain ⟨a, ob, x1, x2, x3⟩ := I.own i o hi
  exact ⟨a, ob, x1, List.mem_cons_of_mem _ x2, x3⟩
theorem Inv.drop {p : Addr × Obj} (I : Inv (c.hold p) g m news σ s) (hn : ∀ q ∈ c.H, q.1 ≠ p.1) : Inv c g m (news.filter fun q => decide (q.1 ≠ p.1)) σ s := by
 refine ⟨I.fr, fun q hq => I.nw q (List.mem_filter.mp hq).1, fun q hq => List.mem_filter.mpr ⟨I.held q (List.mem_cons_of_mem _ hq), decide_eq_true (hn q hq)⟩, List.Nodup.sublist (List.Sublist.map _ List.filter_sublist) I.uniq,
  I.nx, I.cap, I.nodup, fun a ha q hq => I.apart a ha q (List.mem_cons_of_mem _ hq), fun a ha => ?_, fun i o hi => ?_, I.loc, I.cs, I.toks, I.gens, I.drawn, I.os⟩
 ·obtain ⟨o, ho⟩ := I.mine a ha
  exact ⟨o, List.mem_filter.mpr ⟨ho, decide_eq_true fun e => I.apart a ha p List.mem_cons_self e.symm⟩⟩
 ·obtain ⟨a, ob, x1, x2, x3⟩ := I.own i o hi
  exact ⟨a, ob, x1, List.mem_filter.mpr ⟨x2, decide_eq_true fun e => I.apart a (List.mem_of_getElem? x1) p List.mem_cons_self e.symm⟩, x3⟩
theorem sameOwn_is : ∀ {xs ys : List XV} {vs ws : List Value} {π : Pi} {g g' : Ow}, sameOwn xs ys = true → RelL π g xs vs → RelL π g' ys ws → Grow g g' → ws = vs
 | [], ys, _, _, _, _, _, h, r, q, G => by
  cases ys with
  | nil => rw [r.unnil, q.unnil]
  | cons => exact Bool.noConfusion h
 | x :: r, ys, _, _, _, _, _, h, p, q, G => by
  cases ys with
  | nil => cases x <;> exact Bool.noConfusion h
  | cons y ys =>
   cases x <;> try exact Bool.noConfusion h
   cases y <;> try exact Bool.noConfusion h
   rename_i a b
   refine br_el (show br (Nat.beq a b) (sameOwn r ys) false = true from h) ?_; intro h1 h2
   obtain rfl := Nat.eq_of_beq_eq_true h1
   replace p := p.uncons
   obtain ⟨v, vs, rfl, r1, r2⟩ := p
   replace q := q.uncons
   obtain ⟨w, ws, rfl, q1, q2⟩ := q
   obtain ⟨x, x1, rfl⟩ := r1
   obtain ⟨y, y1, rfl⟩ := q1
   rw [G.get x1] at y1
   rw [sameOwn_is h2 r2 q2 G, Option.some.inj y1]
end
end
end Mine
set_option maxRecDepth 100000
set_option genInjectivity false
set_option genSizeOf false
namespace Mine
open PySem PySem.W PySem.Calls PyProof.Rows PySem.SeqAt PyProof.V PySem.Spec PyProof.Rows.LCg
open PySem.MeetsSeq (EqGives)
section
structure Words : Prop where
 ap : nm tab.nAppend = "append"
 re : nm tab.nRemove = "remove"
 po : nm tab.nPop = "pop"
section
variable {c : Cx} {K : Frag} {A : Around} {E : Value → Shared → Prop} {g : Ow} {m : Str → Option Value} {news : List (Addr × Obj)} {σ : XSt} {s : Shared} {env : Env} {ns : Nk} {n : Nat}
theorem elt_ok (hC : SCm K n) (W : Words) (B : Base c) (G : Globs c) (S : Stat c K) (hA : AOk A n) {e : Option Nat} {x : Nat} {elt : Expr} {scope : Scope} (me : MElt e x elt) (sc : CScope scope x) {xv : XV} {v : Value} {k : KV} (h : eltX tab (ev tab n) e xv σ k = true)
  {I C D : Addr} {oI oC oD : Obj} {m₂ : Str → Option Value} (Iv : Inv c g m news σ s) (hv : RelV c.π g xv v) (hoC : NsObj oC m₂) (hm : m₂ (nm x) = some v) (N : News c.h₀ c.L s.heap ((I, oI) :: (C, oC) :: (D, oD) :: news)) (off : Off3 I C D news) (nIC : I ≠ C) (nID : I ≠ D) (nCD : C ≠ D) :
  wpAny (model pg c.w) A (eval elt (compEnvC scope [] C env)) (fun y s' => ∃ b σ' g' news', k b σ' = true ∧ Grow g g' ∧ RelV c.π g' b y ∧ Inv c g' m news' σ' s' ∧ News c.h₀ c.L s'.heap ((I, oI) :: (C, oC) :: (D, oD) :: news') ∧ Off3 I C D news') E s := by
 cases me with
 | emp =>
  unfold eltX at h
  dsimp only at h
  refine allocX_el h ?_; intro h1 h2
  refine List_ (spliced_nil (wpAny_newObj_type ?_))
  have hk : ∀ b o, s.heap.get? b = some o → (s.heap.push (listOf (#[] : Array Value) 0)).get? b = some o := fun b o e => Heap.get?_push_of_some _ e
  have I2 := Iv.made (o := .list []) (ob := listOf #[] 0) (t := s.toks) h1 (Iv.fr.push _) (Iv.nw.push Iv.fr (listOf #[] 0) rfl) Iv.sizes ⟨#[], 0, rfl, .nil⟩ (Nat.zero_le _)
  refine ⟨.own σ.nx, _, _, _, h2, Grow.snoc g _, ⟨_, by rw [Iv.nx]; simp, rfl⟩, I2, fun q hq => ?_, ?_⟩
  ·rcases List.mem_cons.mp hq with rfl | hq
   ·exact ⟨hk _ _ (N _ List.mem_cons_self).1, (N _ List.mem_cons_self).2⟩
   ·rcases List.mem_cons.mp hq with rfl | hq
    ·have z := N _ (List.mem_cons_of_mem _ List.mem_cons_self); exact ⟨hk _ _ z.1, z.2⟩
    ·rcases List.mem_cons.mp hq with rfl | hq
     ·have z := N _ (List.mem_cons_of_mem _ (List.mem_cons_of_mem _ List.mem_cons_self)); exact ⟨hk _ _ z.1, z.2⟩
     ·exact I2.nw q hq
  ·refine ⟨⟨?_, ?_, ?_⟩, off⟩
   ·exact Ne.symm (Nat.ne_of_lt (Heap.lt_size (N _ List.mem_cons_self).1))
   ·exact Ne.symm (Nat.ne_of_lt (Heap.lt_size (N _ (List.mem_cons_of_mem _ List.mem_cons_self)).1))
   ·exact Ne.symm (Nat.ne_of_lt (Heap.lt_size (N _ (List.mem_cons_of_mem _ (List.mem_cons_of_mem _ List.mem_cons_self))).1))
 | row hd hpos =>
  rename_i f px q p
  unfold eltX at h
  dsimp only at h
  split at h
  ·rename_i fa e1
   rw [met_eq (ns := ([] : Nk)) (.nil) (o := .Name (nm x) px) trivial (by show 0 < 30; omega) hpos]
   have hCn : s.heap.Ns C m₂ := hoC.ns (N _ (List.mem_cons_of_mem _ List.mem_cons_self)).1
   refine wpAny_bind (wpAny_Name (wpAny_loadName_local (env := compEnvC scope [] C env) sc.kind (lookup_relabel_local sc.x) hCn hm ?_) hd)
   refine wpAny_bind (wpAny_standAt (wpAny_bind (wpAny_holding (getM_ok S e1 (⟨m, news, Iv⟩ : Is c g σ s) hv (fun vf hv' => ?_) W.ap W.re W.po))))
   obtain ⟨v1, v2⟩ := vf
   obtain ⟨i, a, rfl, p1, e2, e3⟩ := hv'
   dsimp only at e2 e3
   subst e2 e3
   obtain ⟨a', q1, rfl⟩ := hv
   rw [p1] at q1; cases q1
   show wpAny _ A (callWith p (.ref fa) [.ref a] _ _) _ E s
   obtain ⟨fi, e4⟩ := c_known h
   have offm := off.mem
   have zI := N _ List.mem_cons_self
   have zC := N _ (List.mem_cons_of_mem _ List.mem_cons_self)
   have zD := N _ (List.mem_cons_of_mem _ (List.mem_cons_of_mem _ List.mem_cons_self))
   have I1 := Iv.hold (p := (D, oD)) (fun q hq => by rw [List.mem_singleton.mp hq]; exact zD) fun q hq => (offm q hq).2.2
   have I2 := I1.hold (p := (C, oC)) (fun q hq => by rw [List.mem_singleton.mp hq]; exact zC) fun q hq => by
    rcases List.mem_cons.mp hq with rfl | hq
    ·exact nCD.symm
    ·exact (offm q hq).2.1
   have I3 := I2.hold (p := (I, oI)) (fun q hq => by rw [List.mem_singleton.mp hq]; exact zI) fun q hq => by
    rcases List.mem_cons.mp hq with rfl | hq
    ·exact nIC.symm
    ·rcases List.mem_cons.mp hq with rfl | hq
     ·exact nID.symm
     ·exact (offm q hq).1
   refine callWith_of (P := fun hp => KeepP c.h₀ hp) rfl (fun hp hk => keeps_K (S.fns _ fi e4) _ (S.kin.keeps hk)) (evalArgs_nil3 ⟨fun b o e => Iv.fr.keep b o e, wpAny_call (codeAny_mono (hC (c := ((c.hold (D, oD)).hold (C, oC)).hold (I, oI)) h (((B.hold _).hold _).hold _) (((G.hold _).hold _).hold _) (((S.hold _).hold _).hold _) hA I3 (.cons ⟨a, p1, rfl⟩ .nil)) fun res s' hr => ?_)⟩)
   cases res with
   | error e => exact hr.elim
   | ok fl =>
    cases fl with
    | ret v' =>
     obtain ⟨b, σ', g', news', z1, z2, z3, J⟩ := hr
     have hH : ∀ q ∈ c.H, q ∈ news := Iv.held
     have J1 := J.drop fun q hq => by
      rcases List.mem_cons.mp hq with rfl | hq
      ·exact nIC.symm
      ·rcases List.mem_cons.mp hq with rfl | hq
       ·exact nID.symm
       ·exact (offm q (hH q hq)).1
     have J2 := J1.drop fun q hq => by
      rcases List.mem_cons.mp hq with rfl | hq
      ·exact nCD.symm
      ·exact (offm q (hH q hq)).2.1
     have J3 := J2.drop fun q hq => (offm q (hH q hq)).2.2
     refine ⟨b, σ', g', _, z1, z2, z3, J3, fun q hq => ?_, Off3.of fun q hq => ?_⟩
     ·rcases List.mem_cons.mp hq with rfl | hq
      ·exact J.nw _ (J.held _ List.mem_cons_self)
      ·rcases List.mem_cons.mp hq with rfl | hq
       ·exact J.nw _ (J.held _ (List.mem_cons_of_mem _ List.mem_cons_self))
       ·rcases List.mem_cons.mp hq with rfl | hq
        ·exact J.nw _ (J.held _ (List.mem_cons_of_mem _ (List.mem_cons_of_mem _ List.mem_cons_self)))
        ·exact J3.nw q hq
     ·have q3 := List.mem_filter.mp hq
      have q2 := List.mem_filter.mp q3.1
      have q1 := List.mem_filter.mp q2.1
      exact ⟨of_decide_eq_true q1.2, of_decide_eq_true q2.2, of_decide_eq_true q3.2⟩
    | _ => exact hr.elim
  ·cases h
theorem Inv.same (I : Inv c g m news σ s) {g' m' news' σ' s'} (J : Inv c g' m' news' σ' s') : s' = { s with heap := s'.heap, toks := s'.toks } := by
 obtain ⟨h1, a1, b1, t1, o1⟩ := s
 obtain ⟨h2, a2, b2, t2, o2⟩ := s'
 have e1 : a1 = c.gens := I.gens
 have e2 : a2 = c.gens := J.gens
 have e3 : b1 = c.drawn := I.drawn
 have e4 : b2 = c.drawn := J.drawn
 have e5 : o1 = c.os := I.os
 have e6 : o2 = c.os := J.os
 subst e1 e3 e5
 rw [e2, e4, e6]
noncomputable def SrcOk (c : Cx) (j : Option Nat) (ax : Addr) (its : Array Value) (g : Ow) (news : List (Addr × Obj)) : Prop := match j with
 | none => True
 | some j => g[j]? = some ax ∧ SrcAt c.h₀ ax its news
noncomputable def SCl (K : Frag) (n : Nat) : Prop := ∀ {e j : Option Nat} {all xs : List XV} {σ : XSt} {kl : KL}, (ev tab n).cl e j all xs σ kl = true → ∀ {c : Cx} {g g₀ : Ow} {m : Str → Option Value} {news : List (Addr × Obj)} {s₂ : Shared} {A : Around} {env : Env} {x : Nat} {elt : Expr} {scope : Scope} {ax : Addr} {its : Array Value}
 {P : Nat → Value → Prop} {Fin : List Value → List (Addr × Obj) → Prop} {i : Nat} {ys : List Value}, Words → Base c → Globs c → Stat c K → AOk A n → MElt e x elt → CScope scope x →
 (∀ h tk, Fr c.h₀ c.L h m → News c.h₀ c.L h news → Inv c g m news σ { s₂ with heap := h, toks := tk }) → Grow g₀ g → SrcOk c j ax its g news → (j ≠ none → RelL c.π g₀ all its.toList) →
 (∀ q v, q < xs.length → P (i + q) v → ∃ xv, xs[q]? = some xv ∧ RelV c.π g₀ xv v) →
 (∀ g' news' σ' zs ws, Grow g g' → kl zs σ' = true → RelL c.π g' zs ws → (∀ h tk, Fr c.h₀ c.L h m → News c.h₀ c.L h news' → Inv c g' m news' σ' { s₂ with heap := h, toks := tk }) → Fin (ys ++ ws) news') →
 CompRest pg c.w A c.h₀ c.L m env elt (nm x) scope [] s₂ (fun nw => j ≠ none → SrcAt c.h₀ ax its nw) P Fin xs.length i ys news
theorem cl_ok (hC : SCm K n) (hl : SCl K n) : SCl K (n + 1) := by
 intro e j all xs σ kl h c g g₀ m news s₂ A env x elt scope ax its P Fin i ys W B G S hA me sc hI hG hS hall hP hF
 change stepCl tab (ev tab n) e j all xs σ kl = true at h
 cases xs with
 | nil =>
  refine CompRest.zero ?_
  have := hF g news σ [] [] (Grow.refl g) h .nil hI
  rwa [List.append_nil] at this
 | cons xv r =>
  change eltX tab (ev tab n) e xv σ (fun y σ => srcX j all σ ((ev tab n).cl e j all r σ fun ys σ => kl (y :: ys) σ)) = true at h
  refine CompRest.succ fun v I oI C oC D m₂ hp tk E' hPv hoC hm F N off hne => ?_
  obtain ⟨xv', q1, q2⟩ := hP 0 v (by simp) hPv
  have q1 : some xv = some xv' := q1
  cases q1
  have Iv := hI hp tk F fun p hp => N p (List.mem_cons_of_mem _ (List.mem_cons_of_mem _ (List.mem_cons_of_mem _ hp)))
  refine wpAny_mono (elt_ok hC W B G S hA.down me sc h Iv (q2.grow hG) hoC hm N off hne.1 hne.2.1 hne.2.2) (fun y s' q => ?_) fun _ _ e => e
  obtain ⟨b, σ', g', news', z1, z2, z3, z4, z5, z6⟩ := q
  have es := Iv.same z4
  have hS' : SrcOk c j ax its g' news' ∧ (ev tab n).cl e j all r σ' (fun ys σ => kl (b :: ys) σ) = true := by
   cases j with
   | none => exact ⟨trivial, z1⟩
   | some j =>
    obtain ⟨s1, s2⟩ := hS
    unfold srcX at z1
    dsimp only at z1
    split at z1
    ·rename_i ys' e1
     refine br_el z1 ?_; intro w1 w2
     refine z4.listE e1 ?_; intro ad its' n' p1 p2 p3
     have s1' := z2.get s1
     rw [p1] at s1'; cases s1'
     have := sameOwn_is w1 (hall (by simp)) p3 (hG.trans z2)
     refine ⟨⟨p1, .inr ⟨_, p2, rfl, n', ?_⟩⟩, w2⟩
     show Data.seq its' n' = Data.seq its n'
     rw [show its' = its by rw [← Array.toArray_toList (xs := its'), this, Array.toArray_toList]]
    ·cases z1
  refine ⟨s'.heap, s'.toks, news', es, z4.fr, z5, z6, fun hj => ?_, ?_⟩
  ·cases j with
   | none => exact absurd rfl hj
   | some j => exact hS'.1.2
  ·refine hl (i := i + 1) (ys := ys ++ [y]) hS'.2 W B G S hA.down me sc (fun h tk F' N' => ?_) (hG.trans z2) hS'.1 hall (fun q v hql hq => ?_) fun g2 news2 σ2 zs ws G2 k2 r2 I2 => ?_
   ·have z := z4.move (tk := tk) F' N'
    rw [show s'.gens = s₂.gens from z4.gens.trans Iv.gens.symm, show s'.drawn = s₂.drawn from z4.drawn.trans Iv.drawn.symm, show s'.os = s₂.os from z4.os.trans Iv.os.symm] at z
    exact z
   ·have := hP (q + 1) v (by simpa using hql) (by rw [show i + (q + 1) = i + 1 + q by omega]; exact hq)
    simpa using this
   ·have := hF g2 news2 σ2 (b :: zs) (y :: ws) (z2.trans G2) k2 (.cons (z3.grow G2) r2) I2
    rw [List.append_assoc]; exact this
end
end
end Mine
set_option maxRecDepth 100000
set_option genInjectivity false
set_option genSizeOf false
namespace Mine
open PySem PySem.W PySem.Calls PyProof.Rows PySem.SeqAt PyProof.V PySem.Spec PyProof.Rows.LCg
open PySem.MeetsSeq (EqGives)
section
theorem All2.get' {α β : Type} {R : α → β → Prop} {xs : List α} {vs : List β} (a : All2 R xs vs) : ∀ {i : Nat} {v : β}, vs[i]? = some v → ∃ x, xs[i]? = some x ∧ R x v := by
 induction a with
 | nil => intro i v h; simp at h
 | cons p _ ih =>
  intro i v h
  cases i with
  | zero => simp at h; subst h; exact ⟨_, rfl, p⟩
  | succ i => simp at h; obtain ⟨x, h1, h2⟩ := ih h; exact ⟨x, by simpa using h1, h2⟩
section
variable {c : Cx} {K : Frag} {A : Around} {E : Value → Shared → Prop} {g : Ow} {m : Str → Option Value} {news : List (Addr × Obj)} {σ : XSt} {s : Shared} {env : Env} {ns : Nk} {n : Nat}
theorem no_free {scope : Scope} (h : ∀ y ∈ scope.names, y.2 ≠ .cell ∧ y.2 ≠ .free) (env : Env) : closureFor scope env = pure [] := by
 unfold closureFor
 have key : ∀ l : List (Str × NameKind), (∀ y ∈ l, y.2 ≠ .cell ∧ y.2 ≠ .free) → ∀ cs : List (Str × Addr), (forIn l cs fun (x : Str × NameKind) (r : List (Str × Addr)) => (do
   if x.2 == .free then do
    let a ← cellOf env x.1
    pure (ForInStep.yield ((x.1, a) :: r))
   else pure (ForInStep.yield r) : Sem (ForInStep (List (Str × Addr))))) = pure cs := by
  intro l
  induction l with
  | nil => intro _ cs; rw [List.forIn_nil]
  | cons x l ih =>
   intro hl cs
   rw [List.forIn_cons]
   have : (x.2 == NameKind.free) = false := by
    cases q : x.2 == NameKind.free with
    | false => rfl
    | true => exact absurd (eq_of_beq q) (hl x List.mem_cons_self).2
   simp only [this, Bool.false_eq_true, if_false, pure_bind]
   exact ih (fun y hy => hl y (List.mem_cons_of_mem _ hy)) cs
 have := key scope.names h []
 simpa using this
noncomputable def PoX (c : Cx) (g : Ow) (m : Str → Option Value) (k : KV) (D : Addr) (nw : List (Addr × Obj)) (s : Shared) : Prop := ∃ b σ g', k b σ = true ∧ Grow g g' ∧ RelV c.π g' b (.ref D) ∧ Inv c g' m nw σ s
noncomputable def FinM (c : Cx) (g : Ow) (m : Str → Option Value) (s₂ : Shared) (k : KV) (ys : List Value) (news : List (Addr × Obj)) : Prop :=
 ∀ D h tk, Fr c.h₀ c.L h m → News c.h₀ c.L h ((D, lst ys) :: news) → Off1 D news → PoX c g m k D ((D, lst ys) :: news) { s₂ with heap := h, toks := tk }
theorem off1_mem {D : Addr} {l : List (Addr × Obj)} (h : Off1 D l) : ∀ p ∈ l, p.1 ≠ D := by
 induction l with
 | nil => intro p hp; simp at hp
 | cons q l ih =>
  intro p hp
  rcases List.mem_cons.mp hp with rfl | hp
  ·exact h.1
  ·exact ih h.2 p hp
theorem finM_ok {k : KV} {g' : Ow} {s₂ : Shared} {news' : List (Addr × Obj)} {σ' : XSt} {zs : List XV} {ws : List Value} (G : Grow g g') (h : allocX (.list zs) σ' (fun i σ => k (.own i) σ) = true) (r : RelL c.π g' zs ws)
  (hI : ∀ h tk, Fr c.h₀ c.L h m → News c.h₀ c.L h news' → Inv c g' m news' σ' { s₂ with heap := h, toks := tk }) : FinM c g m s₂ k ws news' := by
 intro D hp tk F N off
 have N' : News c.h₀ c.L hp news' := fun p q => N p (List.mem_cons_of_mem _ q)
 have I := hI hp tk F N'
 refine allocX_el h ?_; intro h1 h2
 have J := I.made' (o := .list zs) (ob := lst ws) (a := D) (h' := hp) (t := tk) h1 F N (off1_mem off) ⟨ws.toArray, ws.length, rfl, by simpa using RelL.grow (Grow.snoc g' D) r⟩ (Nat.zero_le _)
 exact ⟨_, _, _, h2, G.trans (Grow.snoc g' D), ⟨D, by rw [I.nx]; simp, rfl⟩, J⟩
theorem comp_ok (hl : SCl K n) (Wd : Words) (B : Base c) (G : Globs c) (S : Stat c K) (hA : AOk A n) {e : Option Nat} {x : Nat} {elt iter : Expr} {px : Pos} {scope : Scope} {pos : Pos} (me : MElt e x elt) (sc : CScope scope x) {iv : XV} {v : Value} {k : KV} (h : lcX (ev tab n) e iv σ k = true)
  (I : Inv c g m news σ s) (hv : RelV c.π g iv v) {Post : Value → Addr → Result → Shared → Prop}
  (hq : ∀ D C h tk m' ys news', Fr c.h₀ c.L h m → News c.h₀ c.L h ((D, lst ys) :: news') → Off1 D news' → h.Ns C m' → c.h₀.get? C = none → C ≠ c.L → C ≠ D → (∀ p ∈ news', p.1 ≠ C) → (∀ h tk, Fr c.h₀ c.L h m → News c.h₀ c.L h ((D, lst ys) :: news') → PoX c g m k D ((D, lst ys) :: news') { s with heap := h, toks := tk }) → Post (.ref D) C (.ok .next) { s with heap := h, toks := tk }) :
  wpAny (model pg c.w) A (pyIter v) (fun it s₂ => wpAny (model pg c.w) A (newList []) (fun acc s₃ => wpAny (model pg c.w) A (newFunctionEnv scope env.globals [] [] env.qual none .none (some env)) (fun cenv s₄ =>
   codeAny (model pg c.w) A (.compStart (.ListComp elt [⟨.Name (nm x) px, iter, [], 0⟩] scope pos) 0 it acc { cenv with scope := relabel scope env }) (Post acc cenv.locals) s₄) E s₃) E s₂) E s := by
 have hcell : ∀ y ∈ scope.names, y.2 ≠ .cell := fun y hy => (sc.cell y hy).1
 unfold lcX at h
 split at h
 ·rename_i j
  split at h
  ·rename_i xs e1
   refine br_el h ?_; clear h; intro h1 h
   refine br_el h ?_; clear h; intro h2 h
   refine I.listE e1 ?_; intro ax its k1 p1 q1 r1
   obtain rfl := own_of p1 hv
   have hz := short_lt h2
   have hlen : xs.length = its.size := by rw [r1.length, Array.length_toList]
   have hil := I.nw.isList q1
   have hlt : ax < s.heap.objs.size := Heap.lt_size (I.nw.get q1)
   have up : ∀ b o, s.heap.get? b = some o → (s.heap.push { cls := .type "list_iterator", data := .fields #[.ref ax, .int 0 0] }).get? b = some o := fun b o e => Heap.get?_push_of_some _ e
   refine wpAny_pyIter_list hil ?_
   refine block_U (S := fun nw => some j ≠ none → SrcAt c.h₀ ax its nw) (Fin := FinM c g m { s with heap := s.heap.push { cls := .type "list_iterator", data := .fields #[.ref ax, .int 0 0] } } k) (Walks.list hA.hd s.heap.objs.size ax (Nat.ne_of_lt hlt) its) (by rw [sizeLine_eq]; omega) (fun i h st => by obtain ⟨o, e, _⟩ := st.1; exact ⟨o, e⟩)
    (fun i h h' o nw st e e' kk N S => list_st i h h' o nw st e e' kk N (S (by simp))) hcell sc.kind sc.x ⟨⟨_, Heap.get?_push_size _ rfl, rfl, rfl⟩, hil.push _⟩ (fun b hb => ?_)
    (I.fr.keeps up) (I.nw.grown up) (Nat.ne_of_lt I.fr.ns.lt) (next_is_new I.fr) (fun p hp => Nat.ne_of_lt (I.sizes p hp)) (fun _ => .inr ⟨_, q1, rfl, k1, rfl⟩) ?_ ?_
   ·show b < (s.heap.push _).objs.size
    rw [Heap.size_push]
    rcases List.mem_cons.mp hb with rfl | hb
    ·exact Nat.lt_succ_self _
    ·rw [List.mem_singleton.mp hb]; exact Nat.lt_succ_of_lt hlt
   ·rw [← hlen]
    refine hl (g₀ := g) (its := its) (ax := ax) h Wd B G S hA me sc (fun h' tk F N => I.move F N) (Grow.refl g) ⟨p1, .inr ⟨_, q1, rfl, k1, rfl⟩⟩ (fun _ => r1) (fun q v hql hq => ?_) fun g' news' σ' zs ws G' kz rz I' => ?_
    ·rw [Nat.zero_add] at hq
     exact r1.get' (by rw [Array.getElem?_toList]; exact hq)
    ·exact finM_ok G' kz rz I'
   ·intro D C h' tk m' ys news' F' N' o1 hn hC₀ hD₀ hCL hDL hCD offC fin
    exact hq D C h' tk m' ys news' F' N' o1 hn hC₀ hCL hCD offC fun h'' tk'' F'' N'' => fin D h'' tk'' F'' N'' o1
  ·rename_i a b e1
   refine br_el h ?_; clear h; intro h1 h
   obtain ⟨ad, ob, p1, q1, t, t', u, rfl⟩ := I.own j _ e1
   obtain rfl := own_of p1 hv
   unfold smallR at h1
   refine br_el h1 ?_; clear h1; intro a0 h1
   refine br_el h1 ?_; clear h1; intro ab h1
   have a0 := (W.Z.leB_iff _ _).mp a0
   have ab := (W.Z.leB_iff _ _).mp ab
   have b9 := (W.Z.ltB_iff _ _).mp h1
   have hr : IsRange s.heap ad a b 1 t t' u := I.nw.get q1
   have hn : Builtin.Range.rangeSize a b 1 = (((b - a).toNat : Nat) : Int) := by rw [rangeSize_one]; split <;> omega
   have up : ∀ b' o, s.heap.get? b' = some o → (s.heap.push { cls := .type "range_iterator", data := .fields #[rawInt a, rawInt (Builtin.Range.rangeSize a b 1), rawInt 1] }).get? b' = some o := fun b' o e => Heap.get?_push_of_some _ e
   refine wpAny_pyIter_range hr (small_one (by omega) (by omega) (by omega) (by omega)) ?_
   refine block_U (S := fun nw => (none : Option Nat) ≠ none → SrcAt c.h₀ ad #[] nw) (Fin := FinM c g m { s with heap := s.heap.push { cls := .type "range_iterator", data := .fields #[rawInt a, rawInt (Builtin.Range.rangeSize a b 1), rawInt 1] } } k) (range_walks hA.hd a (b - a).toNat) (by rw [sizeLine_eq]; omega) (fun i h st => ⟨_, st⟩)
    (fun i h h' o nw st e e' kk N S => range_st (h₀ := c.h₀) (L := c.L) i h h' o nw st e e' kk N trivial) hcell sc.kind sc.x (by show IsRangeIter _ _ _ _ _; rw [hn]; simpa using Heap.get?_push_size _ rfl) (fun b hb => ?_)
    (I.fr.keeps up) (I.nw.grown up) (Nat.ne_of_lt I.fr.ns.lt) (next_is_new I.fr) (fun p hp => Nat.ne_of_lt (I.sizes p hp)) (fun h => absurd rfl h) ?_ ?_
   ·rw [List.mem_singleton.mp hb]
    show s.heap.objs.size < (s.heap.push _).objs.size
    rw [Heap.size_push]; exact Nat.lt_succ_self _
   ·have hlen : (rangeInts a b).length = (b - a).toNat := by simp [rangeInts]
    rw [← hlen]
    refine hl (g₀ := g) (its := #[]) (ax := ad) h Wd B G S hA me sc (fun h' tk F N => I.move F N) (Grow.refl g) trivial (fun h => absurd rfl h) (fun q v hql hq => ?_) fun g' news' σ' zs ws G' kz rz I' => ?_
    ·obtain ⟨hlt, tk, rfl⟩ : q < (b - a).toNat ∧ ∃ t, v = .int (a + ((0 + q : Nat) : Int)) t := by
      obtain ⟨tk, e⟩ := hq
      exact ⟨by rw [hlen] at hql; exact hql, tk, e⟩
     exact ⟨.int (.k (a + Int.ofNat q)), by simp [rangeInts, hlt], tk, Nat.zero_le _, by rw [Nat.zero_add]; rfl⟩
    ·exact finM_ok G' kz rz I'
   ·intro D C h' tk m' ys news' F' N' o1 hn hC₀ hD₀ hCL hDL hCD offC fin
    exact hq D C h' tk m' ys news' F' N' o1 hn hC₀ hCL hCD offC fun h'' tk'' F'' N'' => fin D h'' tk'' F'' N'' o1
  ·cases h
 ·cases h
end
end
end Mine
set_option maxRecDepth 100000
set_option genInjectivity false
set_option genSizeOf false
namespace Mine
open PySem PySem.W PySem.Calls PyProof.Rows PySem.SeqAt PyProof.V PySem.Spec PyProof.Rows.LCg
open PySem.MeetsSeq (EqGives)
section
theorem folded_no {ns x e} (h : ME ns x e) (env : Env) : ∀ v, foldedSetIterable e env v = pure v := by
 have h := h.ok
 cases e <;> first | exact fun _ => rfl | exact absurd rfl h
section
variable {c : Cx} {K : Frag} {A : Around} {E : Value → Shared → Prop} {g : Ow} {m : Str → Option Value} {news : List (Addr × Obj)} {σ : XSt} {s : Shared} {env : Env} {ns : Nk} {n : Nat}
theorem fr_C {h h'' : Heap} {C : Addr} {m' : Str → Option Value} (F : Fr c.h₀ c.L h m') (hs : Heap.SameBut C h h'') (hCL : C ≠ c.L) (hC₀ : c.h₀.get? C = none) : Fr c.h₀ c.L h'' m' := F.change hs hCL hC₀
theorem news_C {h h'' : Heap} {C : Addr} {l : List (Addr × Obj)} (N : News c.h₀ c.L h l) (hs : Heap.SameBut C h h'') (hn : ∀ p ∈ l, p.1 ≠ C) : News c.h₀ c.L h'' l := fun p hp => ⟨hs.extBut _ _ (hn p hp) (N p hp).1, (N p hp).2⟩
theorem lcp_ok (he : SE K n) (hl : SCl K n) (Wd : Words) (B : Base c) (G : Globs c) (S : Stat c K) (Ev : EnvOk c env) (hn : env.scope.names = ns) (hA : AOk A n) {e : Option Nat} {x : Nat} {it : X} {elt iter : Expr} {px : Pos} {scope : Scope} {pos : Pos} {k : KV}
  (h : (ev tab n).e it σ (fun iv σ => lcX (ev tab n) e iv σ k) = true) (me : MElt e x elt) (m1 : ME ns it iter) (sc : CScope scope x) (I : Is c g σ s) :
  wpAny (model pg c.w) A (eval (.ListComp elt [⟨.Name (nm x) px, iter, [], 0⟩] scope pos) env) (Po c g (RelV c.π) k) E s := by
 rw [eval_ListComp]
 refine wpAny_comprehension_free (use := none) rfl (folded_no m1 env) (no_free sc.cell env) sc.kind sc.loc (wpAny_mono (he h m1 B G S Ev hn hA I) (fun xv s₁ q => ?_) fun _ _ e => e)
 obtain ⟨iv, σ1, g1, h1, G1, r1, m1', news1, I1⟩ := q
 refine comp_ok hl Wd B G S hA me sc h1 I1 r1 fun D C h tk m' ys news' F N o1 hns hC₀ hCL hCD offC fin => ?_
 refine ⟨m', hns, fun h'' hs'' => ?_⟩
 obtain ⟨b, σ', g', z1, z2, z3, z4⟩ := fin h'' tk (fr_C F hs'' hCL hC₀) (news_C N hs'' fun p hp => by
  rcases List.mem_cons.mp hp with rfl | hp
  ·exact hCD.symm
  ·exact offC p hp)
 exact ⟨b, σ', g', z1, G1.trans z2, z3, _, _, z4⟩
theorem lcp_asg (he : SE K n) (hl : SCl K n) (Wd : Words) (B : Base c) (G : Globs c) (S : Stat c K) (Ev : EnvOk c env) (hn : env.scope.names = ns) (hA : AOk A n) {e : Option Nat} {x y : Nat} {it : X} {elt iter : Expr} {px py : Pos} {scope : Scope} {pos spos : Pos} {k : KF}
  (h : (ev tab n).e it σ (fun iv σ => lcX (ev tab n) e iv σ fun b σ => k .next { σ with loc := put y b σ.loc }) = true) (me : MElt e x elt) (m1 : ME ns it iter) (sc : CScope scope x) (hy : ns.lookup (nm y) = some .local) (I : Is c g σ s)
  (hsw : swapsWith (.ListComp elt [⟨.Name (nm x) px, iter, [], 0⟩] scope pos) (some (.Name (nm y) py)) spos.line env = pure true) {Q : Flow → Shared → Prop} (hQ : ∀ s' g' σ', k .next σ' = true → Grow g g' → Is c g' σ' s' → Q .next s') :
  wpAny (model pg c.w) A (exec (.Assign [.Name (nm y) py] (.ListComp elt [⟨.Name (nm x) px, iter, [], 0⟩] scope pos) spos) env) Q E s := by
 rw [exec_Assign_Name_used _ _ _ _ hsw]
 refine wpAny_bind (wpAny_standAt (wpAny_bind ?_))
 show wpAny _ A (do let _ ← comprehension (.ListComp elt [⟨.Name (nm x) px, iter, [], 0⟩] scope pos) scope env _ (newList []) false (eval iter env) (some (assign (.Name (nm y) py) env))) _ _ s
 refine wpAny_bind (wpAny_mono (wpAny_comprehension_free (use := some (assign (.Name (nm y) py) env)) (Q := fun _ s' => Q .next s') rfl (folded_no m1 env) (no_free sc.cell env) sc.kind sc.loc
  (wpAny_mono (he h m1 B G S Ev hn hA I) (fun xv s₁ q => ?_) fun _ _ e => e)) (fun _ s' hq => wpAny_pure (wpAny_pure hq)) fun _ _ e => e)
 obtain ⟨iv, σ1, g1, h1, G1, r1, m1', news1, I1⟩ := q
 refine comp_ok hl Wd B G S hA me sc h1 I1 r1 fun D C h tk m' ys news' F N o1 hns hC₀ hCL hCD offC fin => ?_
 show wpAny _ A (assign (.Name (nm y) py) env (.ref D)) _ _ _
 obtain ⟨b, σ', g', z1, z2, z3, z4⟩ := fin h tk F N
 refine wpAny_assign_Name (wpAny_storeName_local (by show env.scope.names.lookup _ = _; rw [hn]; exact hy) (by rw [Ev.loc]; exact F.ns) (fun h₂ hn₂ hs₂ => ?_) (by rw [Ev.kind]; rfl))
 rw [Ev.loc] at hn₂ hs₂
 have J : ∀ h'' tk', Heap.SameBut C h₂ h'' → News c.h₀ c.L h'' ((D, lst ys) :: news') → Is c g' { σ' with loc := put y b σ'.loc } { s₁ with heap := h'', toks := tk' } := fun h'' tk' hs'' N2 => by
  have F2 : Fr c.h₀ c.L h₂ (fun z => if z = nm y then some (.ref D) else m1' z) := F.set hn₂ hs₂
  exact ⟨_, _, ⟨fr_C F2 hs'' hCL hC₀, N2, z4.held, z4.uniq, z4.nx, z4.cap, z4.nodup, z4.apart, z4.mine, z4.own, z4.loc.put z3, z4.cs, Nat.zero_le _, z4.gens, z4.drawn, z4.os⟩⟩
 refine ⟨m', hns.sameBut hs₂ hCL, fun h'' hs'' => ?_⟩
 have N2 : News c.h₀ c.L h'' ((D, lst ys) :: news') := fun p hp => by
  refine ⟨hs''.extBut _ _ ?_ (hs₂.extBut _ _ (N p hp).2.1 (N p hp).1), (N p hp).2⟩
  rcases List.mem_cons.mp hp with rfl | hp
  ·exact hCD.symm
  ·exact offC p hp
 exact hQ _ g' _ z1 (G1.trans z2) (J h'' _ hs'' N2)
end
end
end Mine
set_option maxRecDepth 100000
set_option genInjectivity false
set_option genSizeOf false
namespace Mine
open PySem PySem.W PySem.Calls PyProof.Rows PySem.SeqAt PyProof.V PySem.Spec
open PySem.MeetsSeq (EqGives)
section
structure Keeps (K : Frag) : Prop where
 k : ∀ n a, tab.globs.get n = some (.sta a) → keepIn K (.ref a) = true
theorem emptyDict_is {w : World} : ({ cls := .type "dict", data := .dict #[] } : Obj).IsDictOf (intKind pg w) [] := by
 obtain ⟨o, ho, hd⟩ := Heap.dictOf_iff.mp (Heap.DictOf.new (knd := intKind pg w) ({} : Heap))
 rw [Heap.get?_push_size _ rfl] at ho
 cases ho
 exact hd
section
variable {K : Frag} {n : Nat}
theorem e_ok (W : Words) (he : SE K n) (ht : ST K n) (hs : SEs K n) (hb : SBo K n) (hq : SEq n) (hct : SCt n) (hC : ∀ {m}, m ≤ n → SC K m) (hr : SRm n) (TO : TabsOk K) (hcl : SCl K n) : SE K (n + 1) := by
 intro x e σ k h ns m c g s A E env B G S Ev hn hA I
 change stepE tab (ev tab n) x σ k = true at h
 have hA' := hA.down
 cases m with
 | kI => exact const_ok (ns := ns) h .kI I
 | kN => exact const_ok (ns := ns) h .kN I
 | kB => exact const_ok (ns := ns) h .kB I
 | kS => exact const_ok (ns := ns) h .kS I
 | kY => exact const_ok (ns := ns) h .kY I
 | loc hl hd => exact wpAny_Name (loc_ok (p := default) h hl hd Ev hn I) hd
 | glb hl hd => exact glb_ok h hl hd G S Ev hn I
 | and_ m1 => exact hb (stop := false) h m1 B G S Ev hn hA' I
 | or_ m1 => exact hb (stop := true) h m1 B G S Ev hn hA' I
 | bin m1 m2 => exact bin_ok he h m1 m2 B G S Ev hn hA' I
 | neg m1 =>
  rename_i y a p
  change (ev tab n).e y σ (fun a σ => negX a σ k) = true at h
  show wpAny _ A (eval a env >>= fun v => do standAt p; holding [v] (unaryOp .USub v)) _ E s
  refine Po.next (he h m1 B G S Ev hn hA' I) fun v xv σ1 g1 s1 h1 G1 r1 I1 => ?_
  exact wpAny_bind (wpAny_standAt (wpAny_holding (negX_ok h1 I1 r1)))
 | not_ m1 =>
  rename_i y a p
  change (ev tab n).e y σ (fun a σ => truthX a σ fun b σ => k (.bool !b) σ) = true at h
  show wpAny _ A (eval a env >>= fun v => do standAt p; holding [v] (unaryOp .Not v)) _ E s
  refine Po.next (he h m1 B G S Ev hn hA' I) fun v xv σ1 g1 s1 h1 G1 r1 I1 => ?_
  refine wpAny_bind (wpAny_standAt (wpAny_holding (not_of (wpAny_mono (truthX_ok h1 I1 r1) (fun b s2 q => ?_) fun _ _ e => e))))
  obtain ⟨b', σ2, g2, h2, G2, rfl, I2⟩ := q
  exact ⟨_, σ2, g2, h2, G2, rfl, I2⟩
 | ife m1 m2 m3 =>
  rename_i x1 y1 z1 a1 b1 c1 p
  change (ev tab n).t x1 σ (fun q σ => br q ((ev tab n).e y1 σ k) ((ev tab n).e z1 σ k)) = true at h
  show wpAny _ A (isTrue a1 env (eval a1 env) >>= fun t => if t then eval b1 env else eval c1 env) _ E s
  refine Po.next (ht h m1 B G S Ev hn hA' I) fun t b σ1 g1 s1 h1 G1 r1 I1 => ?_
  cases r1
  cases t with
  | true => exact he h1 m2 B G S Ev hn hA' I1
  | false => exact he h1 m3 B G S Ev hn hA' I1
 | cmp m1 m2 => exact cmp1_ok he hq hct h m1 m2 B G S Ev hn hA' I
 | cmp2 m1 m2 m3 => exact cmp2_ok he hq hct h m1 m2 m3 B G S Ev hn hA' I
 | tup m1 =>
  rename_i xs es k0 p
  change (ev tab n).es xs σ (fun xs σ => tupX xs σ k) = true at h
  refine Tuple_ (Po.then (hs h m1 B G S Ev hn hA' I) fun vs xs σ1 g1 s1 h1 G1 r1 I1 => ?_)
  exact newTuple_ok h1 I1 r1
 | lst m1 =>
  rename_i xs es p
  change (ev tab n).es xs σ (fun xs σ => lstX xs σ k) = true at h
  refine List_ (Po.then (hs h m1 B G S Ev hn hA' I) fun vs xs σ1 g1 s1 h1 G1 r1 I1 => ?_)
  exact newList_ok h1 I1 r1
 | dic =>
  change allocX (.idict []) σ (fun i σ => k (.own i) σ) = true at h
  refine Is.el I ?_; intro mm news I'
  refine wpAny_bind (wpAny_standAt ?_)
  show wpAny _ A (dictDisplay []) _ E s
  show wpAny _ A newDict _ E s
  refine wpAny_newObj_type (I'.pushed h rfl fun g' _ => ⟨[], ?_, .nil⟩)
  exact emptyDict_is
 | sub m1 m2 =>
  rename_i x1 y1 a1 b1 p
  change (ev tab n).e x1 σ (fun ov σ => (ev tab n).e y1 σ fun iv σ => itemX ov iv σ k) = true at h
  refine Subscript_ (Po.go (he h m1 B G S Ev hn hA' I) fun v s1 xv σ1 g1 h1 G1 r1 I1 => ?_)
  refine Po.go (he h1 m2 B G S Ev hn hA' I1) fun u s2 yv σ2 g2 h2 G2 r2 I2 => ?_
  exact wpAny_mono (itemX_ok h2 I2 (r1.grow G2) r2 (subscripted_no m2 _ _)) (fun _ _ q => q.up (G1.trans G2)) fun _ _ e => e
 | sll m1 m2 =>
  rename_i x1 y1 a1 b1 q p
  change (ev tab n).e x1 σ (fun ov σ => (ev tab n).e y1 σ fun av σ => slX dropB ov av σ k) = true at h
  refine Subscript_ (Po.go (he h m1 B G S Ev hn hA' I) fun v s1 xv σ1 g1 h1 G1 r1 I1 => ?_)
  show wpAny _ A (eval b1 env >>= fun l => do
   let u ← holding [l] (pure .none)
   let s ← holding [l, u] (pure .none)
   newFields "slice" [l, u, s]) _ E s1
  refine wpAny_bind (Po.go (he h1 m2 B G S Ev hn hA' I1) fun u s2 yv σ2 g2 h2 G2 r2 I2 => ?_)
  unfold slX at h2
  split at h2
  ·rename_i b0
   split at h2
   ·rename_i i0
    refine br_el h2 ?_; clear h2; intro hz h2
    refine br_el h2 ?_; clear h2; intro hp h2
    split at h2
    ·rename_i r0 e0
     obtain ⟨t, _, rfl⟩ := r1
     obtain ⟨t', _, rfl⟩ := r2
     have hn0 : 0 ≤ i0.at c.π := (PySem.W.Z.leB_iff _ _).mp (allI_ok hp c I2.cs)
     refine wpAny_bind (wpAny_holding (wpAny_pure (wpAny_bind (wpAny_holding (wpAny_pure ?_)))))
     refine wpAny_newObj_type ?_
     refine slice_ok (res := r0.at c.π) I2 (.int _ _) .none (allBy_ok hz I2) (by rw [bfun_at e0]; exact pick_from hn0) rfl fun h' t' k' I3 => ?_
     exact Po.up (G1.trans G2) (Po.now h2 ⟨t', Nat.zero_le _, rfl⟩ I3)
    ·cases h2
   ·cases h2
  ·cases h2
 | slh m1 m2 =>
  rename_i x1 y1 a1 b1 q p
  change (ev tab n).e x1 σ (fun ov σ => (ev tab n).e y1 σ fun av σ => slX takeB ov av σ k) = true at h
  refine Subscript_ (Po.go (he h m1 B G S Ev hn hA' I) fun v s1 xv σ1 g1 h1 G1 r1 I1 => ?_)
  show wpAny _ A (pure Value.none >>= fun l => do
   let u ← holding [l] (eval b1 env)
   let s ← holding [l, u] (pure .none)
   newFields "slice" [l, u, s]) _ E s1
  refine wpAny_bind (wpAny_pure (wpAny_bind (wpAny_holding (Po.go (he h1 m2 B G S Ev hn hA' I1) fun u s2 yv σ2 g2 h2 G2 r2 I2 => ?_))))
  unfold slX at h2
  split at h2
  ·rename_i b0
   split at h2
   ·rename_i i0
    refine br_el h2 ?_; clear h2; intro hz h2
    refine br_el h2 ?_; clear h2; intro hp h2
    split at h2
    ·rename_i r0 e0
     obtain ⟨t, _, rfl⟩ := r1
     obtain ⟨t', _, rfl⟩ := r2
     have hn0 : 0 ≤ i0.at c.π := (PySem.W.Z.leB_iff _ _).mp (allI_ok hp c I2.cs)
     refine wpAny_bind (wpAny_holding (wpAny_pure ?_))
     refine wpAny_newObj_type ?_
     refine slice_ok (res := r0.at c.π) I2 .none (.int _ _) (allBy_ok hz I2) (by rw [bfun_at e0]; exact pick_to hn0) rfl fun h' t' k' I3 => ?_
     exact Po.up (G1.trans G2) (Po.now h2 ⟨t', Nat.zero_le _, rfl⟩ I3)
    ·cases h2
   ·cases h2
  ·cases h2
 | slb m1 m2 m3 =>
  rename_i x1 y1 z1 a1 b1 d1 q p
  change (ev tab n).e x1 σ (fun ov σ => (ev tab n).e y1 σ fun av σ => (ev tab n).e z1 σ fun bv σ => slX takeB ov bv σ fun r σ => slX dropB r av σ k) = true at h
  refine Subscript_ (Po.go (he h m1 B G S Ev hn hA' I) fun v s1 xv σ1 g1 h1 G1 r1 I1 => ?_)
  show wpAny _ A (eval b1 env >>= fun l => do
   let u ← holding [l] (eval d1 env)
   let s ← holding [l, u] (pure .none)
   newFields "slice" [l, u, s]) _ E s1
  refine wpAny_bind (Po.go (he h1 m2 B G S Ev hn hA' I1) fun u s2 yv σ2 g2 h2 G2 r2 I2 => ?_)
  refine wpAny_bind (wpAny_holding (Po.go (he h2 m3 B G S Ev hn hA' I2) fun w s3 zv σ3 g3 h3 G3 r3 I3 => ?_))
  unfold slX at h3
  dsimp only at h3
  split at h3
  ·rename_i b0
   split at h3
   ·rename_i i0
    refine br_el h3 ?_; intro hz h4
    clear h3
    refine br_el h4 ?_; intro hp h3
    clear h4
    split at h3
    ·rename_i r0 e0
     split at h3
     ·rename_i j0
      refine br_el h3 ?_; clear h3; intro hz2 h3
      refine br_el h3 ?_; clear h3; intro hp2 h3
      split at h3
      ·rename_i r9 e9
       obtain ⟨t, _, rfl⟩ := r1
       obtain ⟨t', _, rfl⟩ := r2
       obtain ⟨t'', _, rfl⟩ := r3
       have hn0 : 0 ≤ i0.at c.π := (PySem.W.Z.leB_iff _ _).mp (allI_ok hp c I3.cs)
       have hn1 : 0 ≤ j0.at c.π := (PySem.W.Z.leB_iff _ _).mp (allI_ok hp2 c I3.cs)
       refine wpAny_bind (wpAny_holding (wpAny_pure ?_))
       refine wpAny_newObj_type ?_
       refine slice_ok (res := r9.at c.π) I3 (.int _ _) (.int _ _) (allBy_ok hz I3) (by rw [bfun_at e9, bfun_at e0]; exact pick_both hn1 hn0) rfl fun h' t' k' I4 => ?_
       exact Po.up ((G1.trans G2).trans G3) (Po.now h3 ⟨t', Nat.zero_le _, rfl⟩ I4)
      ·cases h3
     ·cases h3
    ·cases h3
   ·cases h3
  ·cases h3
 | att m1 hp =>
  rename_i x1 a1 n1 p
  change (ev tab n).e x1 σ (fun ov σ => attrX tab (ev tab n) ov n1 σ k) = true at h
  show wpAny _ A (attributeBase a1 (nm n1) env (eval a1 env) >>= fun o => do
   standAt p.atName
   let r ← holding [o] (getAttr o (nm n1) true)
   letTemporaryGo a1 o r
   pure r) _ E s
  rw [attributeBase_plain hp]
  refine Po.next (he h m1 B G S Ev hn hA' I) fun v xv σ1 g1 s1 h1 G1 r1 I1 => ?_
  refine wpAny_bind (wpAny_standAt (Po.next (wpAny_holding (attrX_ok (hC (Nat.le_refl n)) B G S hA h1 I1 r1)) fun u yv σ2 g2 s2 h2 G2 r2 I2 => ?_))
  exact wpAny_bind (wpAny_letTemporaryGo (wpAny_pure (Po.now h2 r2 I2)))
 | met m1 hp m2 hl hpos =>
  rename_i x1 a1 n1 xs es q p
  change (ev tab n).e x1 σ (fun ov σ => metX (getM tab ov n1 σ) fun f => (ev tab n).es xs σ fun xs σ => callM (ev tab n) f ov xs σ k) = true at h
  rw [met_eq m2 hp hl hpos]
  refine Po.next (he h m1 B G S Ev hn hA' I) fun v xv σ1 g1 s1 h1 G1 r1 I1 => ?_
  unfold metX at h1
  split at h1
  ·rename_i f e1
   refine wpAny_bind (wpAny_standAt (wpAny_bind (wpAny_holding (getM_ok S e1 I1 r1 (fun vf hv => ?_) W.ap W.re W.po))))
   obtain ⟨v1, v2⟩ := vf
   show wpAny _ A (callWith p v1 v2 (backTo p (starEach es env)) (backToKw p (keywordEach [] env))) _ E s1
   refine callWith_ok hs B G S Ev hn hA' I1 m2 h1 fun vs xs' σ2 g2 s2 h2 G2 r2 I2 => ?_
   have hv2 : CalV c g2 f xv (v1, v2) := by
    obtain ⟨i, a, z1, z2, z3, z4⟩ := hv
    exact ⟨i, a, z1, G2.get z2, z3, z4⟩
   exact ⟨keeps_callM S h2 hv2 I2, callM_ok (hC (Nat.le_refl n)) hr B G S hA' h2 I2 hv2 r2⟩
  ·cases h1
 | cal m1 ha m2 =>
  rename_i x1 a1 xs es p
  change (ev tab n).e x1 σ (fun fv σ => (ev tab n).es xs σ fun xs σ => callX tab (ev tab n) fv xs σ k) = true at h
  have e0 : eval (.Call a1 es [] p) env = (do callWith p (← eval a1 env) [] (backTo p (starEach es env)) (backToKw p (keywordEach [] env))) := by
   cases a1 <;> first | rfl | exact nomatch ha
  rw [e0]
  refine Po.next (he h m1 B G S Ev hn hA' I) fun v xv σ1 g1 s1 h1 G1 r1 I1 => ?_
  refine callWith_ok hs B G S Ev hn hA' I1 m2 h1 fun vs xs' σ2 g2 s2 h2 G2 r2 I2 => ?_
  exact ⟨keeps_callX S h2 (r1.grow G2) I2, callX_ok (hC (Nat.le_refl n)) B G S hA h2 I2 (r1.grow G2) r2⟩
 | dics m1 m2 hl h0 h15 ha => exact dics_ok h m1 m2 hl h0 h15 ha I
 | tg hf hfd hsup hx hxd hy hyd ha hpos => exact tg_ok TO B G S B.big Ev hn hA h (.tg hf hfd hsup hx hxd hy hyd ha hpos) I
 | lcp me m1 sc =>
  rename_i e1 x1 it1 elt iter px scope pos
  exact lcp_ok he hcl W B G S Ev hn hA' (show (ev tab n).e it1 σ (fun iv σ => lcX (ev tab n) e1 iv σ k) = true from h) me m1 sc I
end
end
end Mine
set_option maxRecDepth 100000
set_option genInjectivity false
set_option genSizeOf false
namespace Mine
open PySem PySem.W PySem.Calls PyProof.Rows PySem.SeqAt PyProof.V PySem.Spec
open PySem.MeetsSeq (EqGives)
section
noncomputable def SA (K : Frag) (n : Nat) : Prop := ∀ {t : X} {x : XV} {te : Expr} {σ : XSt} {k : KU}, (ev tab n).a t x σ k = true → ∀ {ns : Nk}, MT ns t te → ∀ {c : Cx} {g : Ow} {s : Shared} {A : Around} {E : Value → Shared → Prop} {env : Env} {v : Value}, Base c → Globs c → Stat c K → EnvOk c env → env.scope.names = ns → AOk A n → Is c g σ s → RelV c.π g x v →
 wpAny (model pg c.w) A (assign te env v) (Po c g RU fun (_ : Unit) σ => k σ) E s
noncomputable def SAs (K : Frag) (n : Nat) : Prop := ∀ {ts : X} {xs : List XV} {es : List Expr} {σ : XSt} {k : KU}, (ev tab n).as ts xs σ k = true → ∀ {ns : Nk}, MTs ns ts es → ∀ {c : Cx} {g : Ow} {s : Shared} {A : Around} {E : Value → Shared → Prop} {env : Env} {vs : List Value}, Base c → Globs c → Stat c K → EnvOk c env → env.scope.names = ns → AOk A n → Is c g σ s → RelL c.π g xs vs →
 wpAny (model pg c.w) A (assignInOrder ((assignEach es env).map (·.2)) vs) (Po c g RU fun (_ : Unit) σ => k σ) E s
section
variable {c : Cx} {K : Frag} {A : Around} {E : Value → Shared → Prop} {g : Ow} {σ : XSt} {s : Shared} {env : Env} {ns : Nk} {n : Nat}
theorem store_is {x : Nat} {xv : XV} {v : Value} (hl : ns.lookup (nm x) = some .local) (Ev : EnvOk c env) (hn : env.scope.names = ns) (I : Is c g σ s) (r : RelV c.π g xv v) {M : Model} :
  wpAny M A (storeName env (nm x) v) (fun _ s' => Is c g { σ with loc := put x xv σ.loc } s') E s := by
 obtain ⟨m, news, I'⟩ := I
 refine wpAny_storeName_local (by show env.scope.names.lookup _ = _; rw [hn]; exact hl) (by rw [Ev.loc]; exact I'.fr.ns) (fun h' hns hsb => ?_) (by rw [Ev.kind]; rfl)
 rw [Ev.loc] at hns hsb
 exact ⟨_, news, I'.fr.set hns hsb, I'.nw.set hsb, I'.held, I'.uniq, I'.nx, I'.cap, I'.nodup, I'.apart, I'.mine, I'.own, I'.loc.put r, I'.cs, Nat.zero_le _, I'.gens, I'.drawn, I'.os⟩
theorem store_ok {x : Nat} {xv : XV} {v : Value} {k : KU} (h : k { σ with loc := put x xv σ.loc } = true) (hl : ns.lookup (nm x) = some .local) (Ev : EnvOk c env) (hn : env.scope.names = ns) (I : Is c g σ s) (r : RelV c.π g xv v) {M : Model} :
  wpAny M A (storeName env (nm x) v) (Po c g RU fun (_ : Unit) σ => k σ) E s :=
 wpAny_mono (store_is hl Ev hn I r) (fun _ _ J => ⟨(), _, g, h, Grow.refl g, trivial, J⟩) fun _ _ e => e
theorem setV_rel {π : Pi} {g : Ow} {x : XV} {v : Value} (r : RelV π g x v) : ∀ {xs : List XV} {its : Array Value} (_ : RelL π g xs its.toList) (n : Nat), RelL π g (setV n x xs) (its.setIfInBounds n v).toList := by
 have key : ∀ {xs : List XV} {vs : List Value}, RelL π g xs vs → ∀ n, RelL π g (setV n x xs) (vs.set n v) := by
  intro xs vs h
  induction h with
  | nil => intro n; exact .nil
  | @cons y w ys ws q _ ih =>
   intro n
   cases n with
   | zero => exact .cons r ‹_›
   | succ n => exact .cons q (ih n)
 intro xs its h n
 rw [Array.toList_setIfInBounds]
 exact key h n
theorem setItem_list_at {l : Addr} {items : Array Value} {nn : Nat} {k : Int} {t : Tok} {v : Value} {w : World} {prog : Program} {Q : Unit → Shared → Prop} (ho : s.heap.get? l = some (listOf items nn))
  (h0 : 0 ≤ k) (hfit : k < 2 ^ 63) (hn : k < items.size)
  (hQ : ∀ h', Heap.SameBut l s.heap h' → h'.get? l = some (listOf (items.setIfInBounds k.toNat v) nn) → Q () { s with heap := h' }) :
  wpAny (model prog w) A (setItem (.ref l) (.int k t) v) Q E s := by
 have hl : s.heap.IsList l items := ⟨_, ho, rfl, nn, rfl⟩
 have hd : (listOf items nn).data = .seq items nn := rfl
 unfold setItem
 try with_reducible refine wpAny_holding ?_
 first | refine wpAny_bind (wpAny_pure ?_) | skip
 refine wpAny_bind (wpAny_sequenceKey hl.typeIs (by decide) ?_)
 refine wpAny_bind (wpAny_callSpecial?_slot (name := Str.ofString "__setitem__") hl.typeIs slot_list_setitem
  (wpAny_call_entry slot_list_setitem hl.typeIs entry_list_setitem ?_ (args_list_setitem _ _ _)))
 show wpAny _ _ (Builtin.List.listSubscript? (.int k t) >>= _) _ _ s
 refine wpAny_bind (wpAny_listSubscript_int (fitsIndex_of h0 hfit) ?_)
 clear hfit
 obtain ⟨j, rfl⟩ := Int.eq_ofNat_of_zero_le h0
 have hj : j < items.size := by omega
 have hx' : items[j]? = some items[j] := Array.getElem?_eq_getElem hj
 show wpAny _ _ ((seqItemAt l j >>= fun r => pure (r.map (j, ·))) >>= _) _ _ s
 refine wpAny_bind (wpAny_bind (wpAny_seqItemAt ho hd (wpAny_pure ?_)))
 rw [hx']
 show wpAny _ _ (setSeqItemAt l j v >>= _) _ _ s
 have hfin : (s.heap.update l (Obj.mapSeq (·.setIfInBounds j v))).get? l = some (listOf (items.setIfInBounds j v) nn) := by
  have e : Obj.mapSeq (·.setIfInBounds j v) (listOf items nn) = listOf (items.setIfInBounds j v) nn := by
   show Obj.mk _ _ (Data.seq (items.setIfInBounds j v) (if ((items.setIfInBounds j v).size == items.size) = true then nn else nn + 1)) _ = _
   rw [Array.size_setIfInBounds, beq_self_eq_true, if_pos rfl]
  have h1 := Heap.get?_update_self (h := s.heap) (Obj.mapSeq (·.setIfInBounds j v)) ho (by rw [e]; rfl)
  rw [e] at h1
  exact h1
 refine wpAny_bind (wpAny_setSeqItemAt ho hd ?_)
 first
  | exact wpAny_bind (wpAny_pure (wpAny_pure ⟨.none, rfl, wpAny_pure (hQ _ (Heap.SameBut.update ..) hfin)⟩))
  | exact wpAny_pure ⟨.none, rfl, wpAny_pure (hQ _ (Heap.SameBut.update ..) hfin)⟩
theorem setItemX_ok {o i x : XV} {vo vi v : Value} {k : KU} (h : setItemX o i x σ k = true) (I : Is c g σ s) (ro : RelV c.π g o vo) (ri : RelV c.π g i vi) (r : RelV c.π g x v) :
  wpAny (model pg c.w) A (setItem vo vi v) (Po c g RU fun (_ : Unit) σ => k σ) E s := by
 unfold setItemX at h
 split at h
 ·rename_i j n
  obtain ⟨t, _, rfl⟩ := ri
  split at h
  ·rename_i es e1
   refine br_el h ?_; clear h; intro hs h
   have hl := short_lt hs
   refine Is.el I ?_; intro m news I'
   refine I'.idictE e1 ?_; intro a ob kvs p1 q1 D r3
   obtain rfl := own_of p1 ro
   rw [r3.length] at hl
   refine wpAny_setItem_pairs (intKind_is pg c.w _ t) D (fun h' hmm hsb => ?_) (by rw [sizeLine_eq]; omega)
   obtain ⟨o', ho', hd'⟩ := Heap.dictOf_iff.mp hmm
   have hn : (kvs.map (·.1)).Nodup := by obtain ⟨_, _, _, _, _, _, _, _, hn⟩ := D; exact hn
   exact ⟨(), _, g, h, Grow.refl g, trivial, m, _, I'.stored e1 p1 q1 hsb ho' ⟨_, hd', RelI.put r3 hn r⟩ (by omega)⟩
  ·rename_i xs e1
   refine br_el h ?_; clear h; intro hb h
   refine an_el hb ?_; intro h1 h2
   refine br_el h ?_; clear h; intro hs h
   have h1 := (PySem.W.Z.leB_iff _ _).mp h1
   have h2 := (PySem.W.Z.ltB_iff _ _).mp h2
   refine Is.el I ?_; intro m news I'
   refine I'.listE e1 ?_; intro a its n1 p1 q1 r3
   obtain rfl := own_of p1 ro
   have hl : xs.length = its.size := by rw [r3.length, Array.length_toList]
   have h2 : n < (its.size : Int) := by rw [← hl]; exact h2
   have hsz := short_lt hs
   have ho := I'.nw.get q1
   refine setItem_list_at ho h1 (show n < 2 ^ 63 by omega) h2 fun h' hsb ho' => ?_
   exact ⟨(), _, g, h, Grow.refl g, trivial, m, _, I'.stored e1 p1 q1 hsb ho' ⟨_, n1, rfl, setV_rel r r3 n.toNat⟩ (Nat.zero_le _)⟩
  ·cases h
 ·cases h
theorem assign_sub {a b : Expr} {p : Pos} {env : Env} {v : Value} (h : kindE b ≠ 0) : assign (.Subscript a b p) env v = (holding [v] (eval a env) >>= fun ov => do
   let iv ← holding [v, ov] (eval b env)
   standAt p
   holding [v, ov, iv] (setItem ov iv v)
   release [v, ov, iv] []) := by cases b <;> first | rfl | exact absurd rfl h
theorem assignEach_cons {ns t e} (h : MT ns t e) (es : List Expr) (env : Env) : assignEach (e :: es) env = (false, assign e env) :: assignEach es env := by cases h <;> rfl
theorem assignEach_len {ns ts es} (h : MTs ns ts es) (env : Env) : (assignEach es env).length = es.length ∧ (assignEach es env).findIdx? (·.1) = none := by
 induction es generalizing ts with
 | nil => exact ⟨rfl, rfl⟩
 | cons e es ih =>
  cases h with
  | cons m1 m2 =>
   obtain ⟨a, b⟩ := ih m2
   rw [assignEach_cons m1]
   exact ⟨by simp [a], by rw [List.findIdx?_cons]; simp [b]⟩
theorem sameLen_is : ∀ {ns ts es} {xs : List XV}, MTs ns ts es → sameLen ts xs = true → es.length = xs.length
 | _, _, _, [], .nil, _ => rfl
 | _, _, _, _ :: _, .nil, h => nomatch h
 | _, _, _, [], .cons _ _, h => nomatch h
 | _, _, _, _ :: _, .cons _ m2, h => by
  have := sameLen_is m2 (show sameLen _ _ = true from h)
  simp [this]
theorem draw_list {it l : Addr} {items : Array Value} (hne : l ≠ it) {w : World} {prog : Program} : ∀ (n i : Nat) (s : Shared) (Q : List Value → Shared → Prop), s.heap.IsListIter it l i → s.heap.IsList l items → i + n ≤ items.size →
  (∀ h', h'.IsListIter it l (i + n) → Heap.SameBut it s.heap h' → Q ((items.toList.drop i).take n) { s with heap := h' }) → wpAny (model prog w) A (draw (.ref it) n) Q E s
 | 0, i, s, Q, hit, _, _, hQ => by
  show wpAny _ _ (pure []) Q E s
  exact wpAny_pure (by simpa using hQ s.heap hit (Heap.SameBut.refl ..))
 | n + 1, i, s, Q, hit, hl, hle, hQ => by
  have hlt : i < items.size := by omega
  show wpAny _ _ (pyNext (.ref it) >>= _) Q E s
  refine wpAny_bind (wpAny_pyNext_list_item hit hl (x := items[i]) (by simp [hlt]) fun h₁ hit₁ hs₁ => ?_)
  refine wpAny_bind (wpAny_holding (draw_list hne n (i + 1) _ _ hit₁ (hl.extBut hs₁.extBut hne) (by omega) fun h₂ hit₂ hs₂ => wpAny_pure ?_))
  have hd : items.toList.drop i = items[i] :: items.toList.drop (i + 1) := by simp [List.drop_eq_getElem_cons, hlt]
  have := hQ h₂ (by rw [show i + (n + 1) = i + 1 + n by omega]; exact hit₂) (hs₁.trans hs₂)
  rw [hd, List.take_succ_cons] at this
  exact this
theorem unpack_list {l : Addr} {items : Array Value} {w : World} {prog : Program} {Q : List Value → Shared → Prop} (hh : A.handled = none) (hl : s.heap.IsList l items)
  (hQ : ∀ h', Heap.ExtBut s.heap.objs.size s.heap h' → Q items.toList { s with heap := h' }) : wpAny (model prog w) A (unpackItems (.ref l) items.size none) Q E s := by
 have hlt : l ≠ s.heap.objs.size := by obtain ⟨o, ho, _⟩ := hl; exact Nat.ne_of_lt (Heap.lt_size ho)
 unfold unpackItems
 refine wpAny_bind ?_
 unfold notIterableAtAll
 refine wpAny_bind (wpAny_specialOf hl.typeIs slot_list_iter.lookup ?_)
 refine wpAny_pure ?_
 simp only [Bool.false_eq_true, if_false]
 refine wpAny_bind (wpAny_holding (wpAny_pyIter_list hl ?_))
 refine wpAny_bind (wpAny_holding (draw_list hlt items.size 0 _ _ ⟨_, Heap.get?_push_size _ rfl, rfl, rfl⟩ (hl.push _) (by omega) fun h₁ hit₁ hs₁ => ?_))
 have hall : List.take items.size (List.drop 0 items.toList) = items.toList := by
  rw [List.drop_zero]; exact List.take_of_length_le (by simp)
 rw [hall]
 rw [if_neg (by simp)]
 have ht₁ : h₁.IsList l items := (hl.push _).extBut hs₁.extBut hlt
 refine wpAny_bind (wpAny_holding (wpAny_pyNext_list_end hh hit₁ ht₁ (by simp) fun h₂ he₂ => ?_))
 simp only [Option.isSome_none, Bool.false_eq_true, if_false]
 refine wpAny_pure (hQ h₂ fun b o hb e => he₂ b o hb (hs₁.extBut b o hb (Heap.get?_push_of_some _ e)))
theorem unpX_ok (hA : AOk A n) {ts : X} {es : List Expr} {x : XV} {v : Value} {ih : Ev} {k : KU} (h : unpX ih ts x σ k = true) (mt : MTs ns ts es) (I : Is c g σ s) (r : RelV c.π g x v) :
  wpAny (model pg c.w) A (unpackItems v es.length none) (fun vs s' => ∃ xs, ih.as ts xs σ k = true ∧ RelL c.π g xs vs ∧ vs.length = es.length ∧ Is c g σ s') E s := by
 unfold unpX at h
 split at h
 ·rename_i j
  refine Is.el I ?_; intro m news I'
  have keep : ∀ h' : Heap, Heap.ExtBut s.heap.objs.size s.heap h' → ∀ b o, s.heap.get? b = some o → h'.get? b = some o := fun h' e b o hb => e b o (Nat.ne_of_lt (Heap.lt_size hb)) hb
  split at h
  ·rename_i xs e1
   refine br_el h ?_; clear h; intro h1 h
   refine I'.tupE e1 ?_; intro a its n1 p1 q1 r1
   obtain rfl := own_of p1 r
   have hl : es.length = its.size := by rw [sameLen_is mt h1, r1.length, Array.length_toList]
   rw [hl]
   exact unpackItems_tuple hA.hd (I'.nw.isTup q1) fun h' e => ⟨xs, h, r1, by simp, I.grown (keep h' e)⟩
  ·rename_i xs e1
   refine br_el h ?_; clear h; intro h1 h
   refine I'.listE e1 ?_; intro a its n1 p1 q1 r1
   obtain rfl := own_of p1 r
   have hl : es.length = its.size := by rw [sameLen_is mt h1, r1.length, Array.length_toList]
   rw [hl]
   exact unpack_list hA.hd (I'.nw.isList q1) fun h' e => ⟨xs, h, r1, by simp, I.grown (keep h' e)⟩
  ·cases h
 ·cases h
theorem as_ok (ha : SA K n) (hs : SAs K n) : SAs K (n + 1) := by
 intro ts xs es σ k h ns m c g s A E env vs B G S Ev hn hA I r
 change stepAs (ev tab n) ts xs σ k = true at h
 cases m with
 | nil =>
  cases r with
  | nil => exact wpAny_pure (Po.now (b := ()) h trivial I)
  | cons => exact nomatch h
 | cons m1 m2 =>
  cases r with
  | nil => exact nomatch h
  | cons r1 r2 =>
   rw [assignEach_cons m1]
   change (ev tab n).a _ _ σ (fun σ => (ev tab n).as _ _ σ k) = true at h
   refine Po.next (wpAny_holding (ha h m1 B G S Ev hn hA.down I r1)) fun _ _ σ1 g1 s1 h1 G1 _ I1 => ?_
   exact hs h1 m2 B G S Ev hn hA.down I1 (RelL.grow G1 r2)
theorem a_ok (he : SE K n) (hs : SAs K n) : SA K (n + 1) := by
 intro t x te σ k h ns m c g s A E env v B G S Ev hn hA I r
 change stepA tab (ev tab n) t x σ k = true at h
 cases m with
 | loc hl => exact wpAny_bind (wpAny_standAt (wpAny_bindName (store_ok h hl Ev hn I r)))
 | att m1 =>
  rename_i x1 a1 n1 p
  change (ev tab n).e x1 σ (fun ov σ => setAttrX tab ov n1 x σ k) = true at h
  show wpAny _ A (holding [v] (eval a1 env) >>= fun ov => do
   standAt p.atName
   holding [v, ov] (setAttr ov (nm n1) v)
   release [v, ov] []) _ E s
  refine Po.next (wpAny_holding (he h m1 B G S Ev hn hA.down I)) fun ov xo σ1 g1 s1 h1 G1 r1 I1 => ?_
  refine wpAny_bind (wpAny_standAt (Po.next (wpAny_holding (setAttrX_ok S h1 I1 r1 (r.grow G1))) fun _ _ σ2 g2 s2 h2 G2 _ I2 => ?_))
  exact wpAny_release (Po.now (b := ()) h2 trivial I2)
 | sub m1 m2 =>
  rename_i x1 y1 a1 b1 p
  change (ev tab n).e x1 σ (fun ov σ => (ev tab n).e y1 σ fun iv σ => setItemX ov iv x σ k) = true at h
  rw [assign_sub m2.ok]
  refine Po.next (wpAny_holding (he h m1 B G S Ev hn hA.down I)) fun ov xo σ1 g1 s1 h1 G1 r1 I1 => ?_
  refine Po.next (wpAny_holding (he h1 m2 B G S Ev hn hA.down I1)) fun iv xi σ2 g2 s2 h2 G2 r2 I2 => ?_
  refine wpAny_bind (wpAny_standAt (Po.next (wpAny_holding (setItemX_ok h2 I2 (r1.grow G2) r2 ((r.grow G1).grow G2))) fun _ _ σ3 g3 s3 h3 G3 _ I3 => ?_))
  exact wpAny_release (Po.now (b := ()) h3 trivial I3)
 | tup m1 =>
  rename_i ts es k0 p
  change unpX (ev tab n) ts x σ k = true at h
  rw [assign_Tuple]
  obtain ⟨l1, l2⟩ := assignEach_len m1 env
  refine wpAny_bind (wpAny_standAt ?_)
  unfold unpack
  rw [l1, l2]
  refine wpAny_bind (wpAny_holding (wpAny_mono (unpX_ok hA h m1 I r) (fun vs s1 q => ?_) fun _ _ e => e))
  obtain ⟨xs, h1, r1, _, I1⟩ := q
  exact hs h1 m1 B G S Ev hn hA.down I1 r1
end
end
end Mine
set_option maxRecDepth 100000
set_option genInjectivity false
set_option genSizeOf false
namespace Mine
open PySem PySem.W PySem.Calls PyProof.Rows PySem.SeqAt PyProof.V PySem.Spec
open PySem.MeetsSeq (EqGives)
section
section
variable {w : World} {A : Around} {s : Shared} {R : Result → Shared → Prop} {prog : Program} {env : Env}
theorem forTurn_any {target : Expr} {it : Value} {body : List Stmt} (ht : ∀ v, letOwnedTupleGo target it v = pure ())
  (h : wpAny (model prog w) A (pyNext it) (fun r s₁ => match r with
   | none => R (.ok .next) s₁
   | some v => wpAny (model prog w) A (assign target env v) (fun _ s₂ => wpAny (model prog w) A (execs body env) (fun f s₃ => match f with
     | .next | .cont => codeAny (model prog w) A (.forLoop target it body [] env) R s₃
     | .brk => R (.ok .next) s₃
     | .ret v => R (.ok (.ret v)) s₃) (notedBy (model prog w) A env fun e s' => R (.error e) s') s₂) (notedBy (model prog w) A env fun e s' => R (.error e) s') s₁) (notedBy (model prog w) A env fun e s' => R (.error e) s') s) :
  codeAny (model prog w) A (.forLoop target it body [] env) R s := by
 refine codeAny_of_tree ?_
 show wpAny _ A ((forTurn target it body [] env).onRaise (fun x => do noteFrame x env; theTreesLotGoes x)) _ _ s
 refine wpAny_noted ?_
 simp only [forTurn]
 refine wpAny_bind (wpAny_standAt (wpAny_bind (wpAny_onRaise (wpAny_mono h (fun r s₁ h₁ => ?_) fun _ _ h' => wpAny_standAt h'))))
 cases r with
 | none => exact wpAny_pure ⟨rfl, codeAny_block (wpAny_execs_nil h₁)⟩
 | some v =>
  refine wpAny_bind (wpAny_of_eq (ht v) ?_)
  refine wpAny_bind (wpAny_mono h₁ (fun _ s₂ h₂ => wpAny_bind (wpAny_mono h₂ (fun f s₃ h₃ => ?_) fun _ _ h' => h')) fun _ _ h' => h')
  cases f with
  | next => exact wpAny_pure ⟨rfl, h₃⟩
  | cont => exact wpAny_pure ⟨rfl, h₃⟩
  | brk => exact wpAny_pure h₃
  | ret v => exact wpAny_pure h₃
end
noncomputable def ItOk (g : Ow) (src : Src) (oI : Obj) : Prop := match src with
 | .tp j i => ∃ ax, g[j]? = some ax ∧ oI.cls = .type "tuple_iterator" ∧ oI.data = .fields #[.ref ax, .int i 0]
 | .rg a n => oI = { cls := .type "range_iterator", data := .fields #[rawInt a, rawInt (n : Int), rawInt 1] }
noncomputable def SFl (K : Frag) (n : Nat) : Prop := ∀ {t body : X} {src : Src} {σ : XSt} {k : KF}, (ev tab n).fl t body src σ k = true → ∀ {ns : Nk} {te : Expr} {ss : List Stmt}, MT ns t te → MSs ns body ss → ∀ {c : Cx} {g : Ow} {s : Shared} {A : Around} {env : Env} {I : Addr} {oI : Obj}, Base c → Globs c → Stat c K → EnvOk c env → env.scope.names = ns → AOk A n →
 Is (c.hold (I, oI)) g σ s → ItOk g src oI → (∀ q ∈ c.H, q.1 ≠ I) →
 codeAny (model pg c.w) A (.forLoop te (.ref I) ss [] env) (fun r s' => match r with
  | .ok f => Po c g (RFl c.π) k f s'
  | .error _ => False) s
section
variable {c : Cx} {K : Frag} {A : Around} {E : Value → Shared → Prop} {g : Ow} {σ : XSt} {s : Shared} {env : Env} {ns : Nk} {n : Nat}
theorem Is.drop {p : Addr × Obj} (I : Is (c.hold p) g σ s) (hn : ∀ q ∈ c.H, q.1 ≠ p.1) : Is c g σ s := by
 obtain ⟨m, news, I⟩ := I; exact ⟨m, _, I.drop hn⟩
theorem Po.drop {α β : Type} {p : Addr × Obj} {R : Ow → β → α → Prop} {k : β → XSt → Bool} {a : α} (h : Po (c.hold p) g R k a s) (hn : ∀ q ∈ c.H, q.1 ≠ p.1) : Po c g R k a s := by
 obtain ⟨b, σ, g', h1, h2, h3, h4⟩ := h; exact ⟨b, σ, g', h1, h2, h3, h4.drop hn⟩
theorem Is.swap {p : Addr × Obj} {o' : Obj} {h' : Heap} {tk : Nat} (J : Is (c.hold p) g σ s) (hn : ∀ q ∈ c.H, q.1 ≠ p.1) (hs : Heap.SameBut p.1 s.heap h') (ho : h'.get? p.1 = some o') : Is (c.hold (p.1, o')) g σ { s with heap := h', toks := tk } := by
 obtain ⟨m, news, J⟩ := J
 have hp : p ∈ news := J.held _ List.mem_cons_self
 have zp := J.nw p hp
 have J1 := J.drop hn
 have ne : ∀ q ∈ news.filter fun q => decide (q.1 ≠ p.1), q.1 ≠ p.1 := fun q hq => of_decide_eq_true (List.mem_filter.mp hq).2
 have F : Fr c.h₀ c.L h' m := J1.fr.change hs zp.2.1 zp.2.2
 have N : News c.h₀ c.L h' (news.filter fun q => decide (q.1 ≠ p.1)) := fun q hq => ⟨hs.extBut _ _ (ne q hq) (J1.nw q hq).1, (J1.nw q hq).2⟩
 have J2 := (J1.move (tk := tk) F N).hold (p := (p.1, o')) (fun q hq => by rw [List.mem_singleton.mp hq]; exact ⟨ho, zp.2⟩) ne
 exact ⟨m, _, J2⟩
theorem Is.gone {p : Addr × Obj} {h' : Heap} {tk : Nat} (J : Is (c.hold p) g σ s) (hn : ∀ q ∈ c.H, q.1 ≠ p.1) (hs : Heap.ExtBut p.1 s.heap h') : Is c g σ { s with heap := h', toks := tk } := by
 obtain ⟨m, news, J⟩ := J
 have hp : p ∈ news := J.held _ List.mem_cons_self
 have zp := J.nw p hp
 have J1 := J.drop hn
 have ne : ∀ q ∈ news.filter fun q => decide (q.1 ≠ p.1), q.1 ≠ p.1 := fun q hq => of_decide_eq_true (List.mem_filter.mp hq).2
 have z2 : c.h₀.get? p.1 = none := zp.2.2
 have F : Fr c.h₀ c.L h' m := ⟨J1.fr.ns.at' fun o e => hs _ o zp.2.1.symm e, fun b o e => hs b o (fun q => by rw [q, z2] at e; cases e) (J1.fr.keep b o e), J1.fr.above⟩
 have N : News c.h₀ c.L h' (news.filter fun q => decide (q.1 ≠ p.1)) := fun q hq => ⟨hs _ _ (ne q hq) (J1.nw q hq).1, (J1.nw q hq).2⟩
 exact ⟨m, _, J1.move (tk := tk) F N⟩
theorem isLoc_is {ns t te} (m : MT ns t te) (h : isLoc t = true) (it v : Value) : letOwnedTupleGo te it v = pure () := by
 cases m with
 | loc => rfl
 | _ => exact nomatch h
theorem fl_ok (ha : SA K n) (hss : SSs K n) (hf : SFl K n) : SFl K (n + 1) := by
 intro t body src σ k h ns te ss mt ms c g s A env I oI B G S Ev hn hA Js hit hH
 change stepFl (ev tab n) t body src σ k = true at h
 have hA' := hA.down
 have turn : ∀ {x : XV} {v : Value} {src' : Src} {oI' : Obj} {s' : Shared}, turnX (ev tab n) t body x src' σ k = true → RelV c.π g x v → Is (c.hold (I, oI')) g σ s' → ItOk g src' oI' →
   wpAny (model pg c.w) A (assign te env v) (fun _ s₂ => wpAny (model pg c.w) A (execs ss env) (fun f s₃ => match f with
     | .next | .cont => codeAny (model pg c.w) A (.forLoop te (.ref I) ss [] env) (fun r s' => match r with | .ok f => Po c g (RFl c.π) k f s' | .error _ => False) s₃
     | .brk => (fun r s' => match r with | .ok f => Po c g (RFl c.π) k f s' | .error _ => False : Result → Shared → Prop) (.ok .next) s₃
     | .ret v => (fun r s' => match r with | .ok f => Po c g (RFl c.π) k f s' | .error _ => False : Result → Shared → Prop) (.ok (.ret v)) s₃) (notedBy (model pg c.w) A env fun e s' => False) s₂) (notedBy (model pg c.w) A env fun e s' => False) s' := by
  intro x v src' oI' s' h r J hi
  refine br_el (show br (isLoc t) _ false = true from h) ?_; clear h; intro _ h
  refine Po.go (ha h mt (c := c.hold (I, oI')) (B.hold _) (G.hold _) (S.hold _) ⟨Ev.kind, Ev.loc, Ev.glb, Ev.blt⟩ hn hA' J r) fun _ s2 _ σ2 g2 h2 G2 _ J2 => ?_
  refine Po.go (hss h2 ms (c := c.hold (I, oI')) (B.hold _) (G.hold _) (S.hold _) ⟨Ev.kind, Ev.loc, Ev.glb, Ev.blt⟩ hn hA' J2) fun f s3 fl σ3 g3 h3 G3 rf J3 => ?_
  cases fl with
  | next =>
   cases f with
   | next =>
    refine codeAny_mono (hf (g := g3) h3 mt ms B G S Ev hn hA' J3 ?_ hH) fun r s4 q => ?_
    ·cases src' with
     | tp j i => obtain ⟨ax, z1, z2⟩ := hi; exact ⟨ax, (G2.trans G3).get z1, z2⟩
     | rg a m => exact hi
    ·cases r with
     | ok f => exact Po.up (G2.trans G3) q
     | error e => exact q.elim
   | _ => exact rf.elim
  | ret xv =>
   cases f with
   | ret v' => exact Po.drop ⟨.ret xv, σ3, g3, h3, G2.trans G3, rf, J3⟩ hH
   | _ => exact rf.elim
 have isl : ∀ {x src'}, turnX (ev tab n) t body x src' σ k = true → isLoc t = true := fun h => (br_true (show br (isLoc t) _ false = true from h)).1
 unfold stepFl at h
 split at h
 ·rename_i j i
  obtain ⟨ax, p1, hc, hd⟩ := hit
  split at h
  ·rename_i xs e1
   refine Is.el Js ?_; intro m news J
   refine J.tupE e1 ?_; intro a its k1 p2 q1 r1
   rw [p1] at p2; cases p2
   have ht := J.nw.isTup q1
   have hI : IsTupIter s.heap I ax i := ⟨oI, J.nw.get (J.held _ List.mem_cons_self), hc, hd⟩
   split at h
   ·rename_i e2
    rw [idxL_get] at e2
    have hx : its[i]? = none := by
     rw [Array.getElem?_eq_none_iff]
     have := List.getElem?_eq_none_iff.mp e2
     rw [r1.length, Array.length_toList] at this
     exact this
    have ex : (fun r s' => match r with | .ok f => Po c g (RFl c.π) k f s' | .error _ => False : Result → Shared → Prop) = fun r s' => match r with | .ok f => Po c g (RFl c.π) k f s' | .error _ => False := rfl
    refine codeAny_forLoop_any (fun m s' => s' = s) (fun m s' e => ?_) 0 rfl
    subst e
    refine next_tuple_end hA.hd hI ht hx fun h' hb => ?_
    exact wpAny_execs_nil (Po.now (b := Fl.next) h trivial (Js.gone (tk := s'.toks) hH hb))
   ·rename_i x e2
    rw [idxL_get] at e2
    obtain ⟨v, hv, rv⟩ := r1.get e2
    refine forTurn_any (isLoc_is mt (isl h) _) (next_tuple_item hI ht (x := v) (by simpa using hv) fun h' hit' hs => ?_)
    obtain ⟨o', ho', hc', hd'⟩ := hit'
    exact turn (oI' := o') h rv (Js.swap (tk := s.toks) hH hs ho') ⟨ax, p1, hc', hd'⟩
  ·cases h
 ·rename_i a m0
  have hit : oI = { cls := .type "range_iterator", data := .fields #[rawInt a, rawInt (m0 : Int), rawInt 1] } := hit
  subst hit
  refine Is.el Js ?_; intro m news J
  have hI : IsRangeIter s.heap I a (m0 : Int) 1 := J.nw.get (J.held _ List.mem_cons_self)
  cases m0 with
  | zero =>
   refine codeAny_forLoop_any (fun m s' => s' = s) (fun m s' e => ?_) 0 rfl
   subst e
   refine wpAny_pyNext_range_end hA.hd hI (by simp) fun h' hb => ?_
   exact wpAny_execs_nil (Po.now (b := Fl.next) h trivial (Js.gone (tk := s'.toks) hH hb))
  | succ m0 =>
   refine forTurn_any (isLoc_is mt (isl (show turnX (ev tab n) t body (.int (.k a)) (.rg (a + 1) m0) σ k = true from h)) _) (wpAny_pyNext_range_item hI (by omega) fun h' hit' hs => ?_)
   have hit2 : h'.get? I = some { cls := .type "range_iterator", data := .fields #[rawInt (a + 1), rawInt (m0 : Int), rawInt 1] } := by
    have z : h'.get? I = some _ := hit'
    rw [z]
    rw [show (((m0 + 1 : Nat) : Int) - 1) = (m0 : Int) by push_cast; omega]
   exact turn (src' := .rg (a + 1) m0) (show turnX (ev tab n) t body (.int (.k a)) (.rg (a + 1) m0) σ k = true from h) ⟨s.toks, Nat.zero_le _, rfl⟩ (Js.swap (tk := s.toks + 1) hH hs hit2) rfl
end
end
end Mine
set_option maxRecDepth 100000
set_option genInjectivity false
set_option genSizeOf false
namespace Mine
open PySem PySem.W PySem.Calls PyProof.Rows PySem.SeqAt PyProof.V PySem.Spec
open PySem.MeetsSeq (EqGives)
section
theorem exec_asg {a te : Expr} {p : Pos} {env : Env} {r : Option (List Str)} (h1 : swapsWith a (some te) p.line env = pure false) (h2 : swappedStores [te] a env = pure r) (h3 : (assignEach [te] env).map (·.2) = [assign te env]) :
  exec (.Assign [te] a p) env = (do
   standAt p
   let v ← eval a env
   assignStores env v r [assign te env]) := by
 have e : exec (.Assign [te] a p) env = (do
   standAt p
   if ← swapsWith a (some te) p.line env then do
    evalThenUse a env fun v => assignAll v ((assignEach [te] env).map (·.2))
    pure .next
   else do
    let v ← eval a env
    assignStores env v (← swappedStores [te] a env) ((assignEach [te] env).map (·.2))) := rfl
 rw [e, h1, h2, h3]
 rfl
noncomputable def nameOf (env : Env) (line : Nat) (e : Expr) : Option Str := match e with
 | .Name id pos => if env.kindOf id == some .local && pos.line == line then some id else none
 | _ => none
theorem swapped_cases {es vs : List Expr} {k k' : Nat} {p p' : Pos} {env : Env} (hc : vs.all (constantsAlone 8) = false) :
  ∃ r, swappedStores [.Tuple es k p] (.Tuple vs k' p') env = pure r ∧ ∀ names, r = some names → (es.length = 2 ∨ es.length = 3) ∧ names = es.filterMap (nameOf env ((es.head?.map (·.pos.line)).getD 0)) ∧ names.length = es.length ∧ names.eraseDups.length = names.length := by
 unfold swappedStores
 dsimp only
 split
 ·exact ⟨none, rfl, fun _ h => nomatch h⟩
 ·rename_i g1
  split
  ·exact ⟨none, rfl, fun _ h => nomatch h⟩
  ·split
   ·exact ⟨none, rfl, fun _ h => nomatch h⟩
   ·rename_i g2
    split
    ·exact ⟨none, rfl, fun _ h => nomatch h⟩
    ·rw [hc]
     refine ⟨_, rfl, fun names h => ?_⟩
     cases h
     simp only [Bool.or_eq_true, Bool.not_eq_true', Bool.or_eq_false_iff, beq_eq_false_iff_ne, bne_iff_ne, ne_eq, not_or, Decidable.not_not] at g1 g2
     refine ⟨?_, rfl, g2.1, g2.2⟩
     have := g1.1.1
     by_cases h2 : es.length = 2
     ·exact .inl h2
     ·by_cases h3 : es.length = 3
      ·exact .inr h3
      ·exact absurd ⟨h2, h3⟩ this
section
variable {c : Cx} {K : Frag} {A : Around} {E : Value → Shared → Prop} {g : Ow} {σ : XSt} {s : Shared} {env : Env} {ns : Nk} {n : Nat}
theorem nameOf_is {l : Nat} {e : Expr} {a : Str} (h : nameOf env l e = some a) : ∃ pos, e = .Name a pos := by
 unfold nameOf at h
 split at h
 ·split at h
  ·cases h; exact ⟨_, rfl⟩
  ·cases h
 ·cases h
theorem mt_name {t : X} {a : Str} {pos : Pos} (m : MT ns t (.Name a pos)) : ∃ x, t = .loc x ∧ a = nm x ∧ ns.lookup (nm x) = some .local := by
 cases m with
 | loc h => exact ⟨_, rfl, rfl, h⟩
theorem RelM.look {π : Pi} {g : Ow} {l l' : List (Nat × XV)} {m : Str → Option Value} (h : RelM π g l m) (e : ∀ y, Mine.look y l' = Mine.look y l) : RelM π g l' m := fun y x q => h y x (by rw [← e]; exact q)
theorem Is.look {l l' : List (Nat × XV)} (I : Is c g { σ with loc := l } s) (e : ∀ y, Mine.look y l' = Mine.look y l) : Is c g { σ with loc := l' } s := by
 obtain ⟨m, news, I⟩ := I
 exact ⟨m, news, I.fr, I.nw, I.held, I.uniq, I.nx, I.cap, I.nodup, I.apart, I.mine, I.own, I.loc.look e, I.cs, I.toks, I.gens, I.drawn, I.os⟩
theorem as2 {x y : Nat} {xs : List XV} {k : KU} (h : (ev tab n).as (.cons (.loc x) (.cons (.loc y) .nil)) xs σ k = true) : ∃ a b, xs = [a, b] ∧ k { σ with loc := put y b (put x a σ.loc) } = true := by
 cases n with
 | zero => exact nomatch h
 | succ n =>
  cases xs with
  | nil => exact nomatch h
  | cons a xs =>
   change (ev tab n).a (.loc x) a σ (fun σ => (ev tab n).as (.cons (.loc y) .nil) xs σ k) = true at h
   cases n with
   | zero => exact nomatch h
   | succ n =>
    change (ev tab (n + 1)).as (.cons (.loc y) .nil) xs { σ with loc := put x a σ.loc } k = true at h
    cases xs with
    | nil => exact nomatch h
    | cons b xs =>
     change (ev tab n).a (.loc y) b { σ with loc := put x a σ.loc } (fun σ => (ev tab n).as .nil xs σ k) = true at h
     cases n with
     | zero => exact nomatch h
     | succ n =>
      change (ev tab (n + 1)).as .nil xs { σ with loc := put y b (put x a σ.loc) } k = true at h
      cases xs with
      | nil => exact ⟨a, b, rfl, h⟩
      | cons => exact nomatch h
theorem swap_look2 {x y : Nat} (h : x ≠ y) (a b : XV) (l : List (Nat × XV)) : ∀ w, Mine.look w (put y b (put x a l)) = Mine.look w (put x a (put y b l)) := by
 intro w
 rw [look_put, look_put, look_put, look_put]
 by_cases h1 : w = y
 ·have : ¬ w = x := fun q => h (q.symm.trans h1)
  simp [h1, this]
  intro q; exact absurd q.symm h
 ·simp [h1]
theorem dups2 {a : Str} : ([a, a] : List Str).eraseDups.length ≠ 2 := by simp [List.eraseDups_cons]
theorem bind_is {x : Nat} {xv : XV} {v : Value} (hl : ns.lookup (nm x) = some .local) (Ev : EnvOk c env) (hn : env.scope.names = ns) (I : Is c g σ s) (r : RelV c.π g xv v) {M : Model} :
  wpAny M A (bindName env (nm x) v) (fun _ s' => Is c g { σ with loc := put x xv σ.loc } s') E s := wpAny_bindName (store_is hl Ev hn I r)
theorem swap_ok (hA : AOk A n) (Ev : EnvOk c env) (hn : env.scope.names = ns) {ts : X} {es : List Expr} {xv : XV} {v : Value} {k : KF} {names : List Str} {stores : List (Value → Sem Unit)} {l : Nat}
  (h : unpX (ev tab n) ts xv σ (fun σ => k .next σ) = true) (mt : MTs ns ts es) (I : Is c g σ s) (r : RelV c.π g xv v) (q1 : es.length = 2 ∨ es.length = 3) (q2 : names = es.filterMap (nameOf env l)) (q3 : names.length = es.length) (q4 : names.eraseDups.length = names.length) (h3 : notThree es = true) :
  wpAny (model pg c.w) A (assignStores env v (some names) stores) (Po c g (RFl c.π) k) E s := by
 show wpAny _ A (do
  rule "assign.swapped-stores"
  let items ← unpackItems v names.length none
  assignInOrder (names.reverse.map fun n => bindName env n) items.reverse
  pure Flow.next) _ E s
 refine wpAny_bind (wpAny_rule (wpAny_bind ?_))
 rw [q3]
 refine wpAny_mono (unpX_ok hA h mt I r) (fun vs s1 q => ?_) fun _ _ e => e
 obtain ⟨xs, h1, r1, hl, I1⟩ := q
 rcases q1 with q1 | q1
 ·match es, q1 with
  | [e1, e2], _ =>
   cases n1 : nameOf env l e1 with
   | none => rw [q2] at q3; cases n2 : nameOf env l e2 <;> simp [n1, n2] at q3
   | some a =>
    cases n2 : nameOf env l e2 with
    | none => rw [q2] at q3; simp [n1, n2] at q3
    | some b =>
     have q5 : names = [a, b] := by rw [q2]; simp [n1, n2]
     obtain ⟨_, rfl⟩ := nameOf_is n1
     obtain ⟨_, rfl⟩ := nameOf_is n2
     cases mt with
     | cons t1 t2 =>
      cases t2 with
      | cons t2 t3 =>
       cases t3
       obtain ⟨x, rfl, rfl, lx⟩ := mt_name t1
       obtain ⟨y, rfl, rfl, ly⟩ := mt_name t2
       obtain ⟨xa, xb, rfl, h2⟩ := as2 h1
       replace r1 := r1.uncons
       obtain ⟨_, _, rfl, ra, r1⟩ := r1
       replace r1 := r1.uncons
       obtain ⟨_, _, rfl, rb, r1⟩ := r1
       obtain rfl := r1.unnil
       rename_i va vb
       have hxy : x ≠ y := fun e => by subst e; rw [q5] at q4; exact dups2 q4
       rw [q5]
       show wpAny _ A (assignInOrder [bindName env (nm y), bindName env (nm x)] [vb, va] >>= _) _ E s1
       refine wpAny_bind (wpAny_bind (wpAny_holding (wpAny_mono (bind_is ly Ev hn I1 rb) (fun _ s2 J => ?_) fun _ _ e => e)))
       refine wpAny_bind (wpAny_holding (wpAny_mono (bind_is lx Ev hn J ra) (fun _ s3 J2 => wpAny_pure (wpAny_pure ?_)) fun _ _ e => e))
       exact ⟨.next, _, g, h2, Grow.refl g, trivial, J2.look (swap_look2 hxy xa xb _)⟩
 ·match es, q1 with
  | [e1, e2, e3], _ =>
   cases n1 : nameOf env l e1 with
   | none => rw [q2] at q3; cases n2 : nameOf env l e2 <;> cases n3 : nameOf env l e3 <;> simp [n1, n2, n3] at q3
   | some a =>
    cases n2 : nameOf env l e2 with
    | none => rw [q2] at q3; cases n3 : nameOf env l e3 <;> simp [n1, n2, n3] at q3
    | some b =>
     cases n3 : nameOf env l e3 with
     | none => rw [q2] at q3; simp [n1, n2, n3] at q3
     | some d =>
      obtain ⟨_, rfl⟩ := nameOf_is n1
      obtain ⟨_, rfl⟩ := nameOf_is n2
      obtain ⟨_, rfl⟩ := nameOf_is n3
      exact Bool.noConfusion h3
end
end
end Mine
set_option maxRecDepth 100000
set_option genInjectivity false
set_option genSizeOf false
namespace Mine
open PySem PySem.W PySem.Calls PyProof.Rows PySem.SeqAt PyProof.V PySem.Spec
open PySem.MeetsSeq (EqGives)
section
section
variable {c : Cx} {K : Frag} {A : Around} {E : Value → Shared → Prop} {g : Ow} {σ : XSt} {s : Shared} {env : Env} {ns : Nk} {n : Nat}
theorem notRef {x : XV} {v : Value} {π : Pi} (h : isRef x = false) (r : RelV π g x v) : ∀ a, v ≠ .ref a := by
 intro a e
 subst e
 cases x with
 | own _ => exact nomatch h
 | sta _ => exact nomatch h
 | none => exact nomatch r
 | bool _ => exact nomatch r
 | int _ => obtain ⟨_, _, q⟩ := r; exact nomatch q
 | str _ => obtain ⟨_, _, q⟩ := r; exact nomatch q
 | bytes _ => obtain ⟨_, _, q⟩ := r; exact nomatch q
 | bi _ => exact nomatch r
 | ty _ => exact nomatch r
theorem augX_ok {op : Operator} {a b : XV} {va vb : Value} {k : XV → Bool} (h : augX op a b k = true) (I : Is c g σ s) (ra : RelV c.π g a va) (rb : RelV c.π g b vb) :
  wpAny (model pg c.w) A (inplaceOp op va vb) (fun v s' => ∃ x, k x = true ∧ RelV c.π g x v ∧ Is c g σ s') E s := by
 unfold augX at h
 split at h
 ·obtain ⟨t, _, rfl⟩ := ra
  obtain ⟨u, _, rfl⟩ := rb
  split at h
  ·rename_i z e
   exact P.iadd_int ⟨.int z, h, ⟨_, Nat.zero_le _, by rw [iop_at e]; rfl⟩, I.tok _ (Nat.zero_le _)⟩
  ·cases h
 ·cases h
theorem for_ok (ha : SA K n) (hss : SSs K n) (hf : SFl K n) (B : Base c) (G : Globs c) (S : Stat c K) (Ev : EnvOk c env) (hn : env.scope.names = ns) (hA : AOk A n) {t body : X} {te : Expr} {ss : List Stmt} {xv : XV} {v : Value} {k : KF} {Q : Flow → Shared → Prop}
  (h : forX (ev tab n) t body xv σ k = true) (mt : MT ns t te) (ms : MSs ns body ss) (I : Is c g σ s) (r : RelV c.π g xv v) (hQ : ∀ f s', Po c g (RFl c.π) k f s' → Q f s') :
  wpAny (model pg c.w) A (pyIter v) (fun it s₂ => codeAny (model pg c.w) A (.forLoop te it ss [] env) (fun r s' => match r with | .ok f => Q f s' | .error e => cameBackBy (model pg c.w) A env E e s') s₂) E s := by
 unfold forX at h
 split at h
 ·rename_i i
  split at h
  ·rename_i xs e1
   refine Is.el I ?_; intro m news I'
   refine I'.tupE e1 ?_; intro a its k1 p1 q1 r1
   obtain rfl := own_of p1 r
   refine iter_tuple (I'.nw.isTup q1) ?_
   have J := (I'.grown (h' := s.heap.push { cls := .type "tuple_iterator", data := .fields #[.ref a, .int 0 0] }) (t := s.toks) fun b o e => Heap.get?_push_of_some _ e).hold (p := (s.heap.objs.size, { cls := .type "tuple_iterator", data := .fields #[.ref a, .int 0 0] }))
    (fun q hq => by rw [List.mem_singleton.mp hq]; exact ⟨Heap.get?_push_size _ rfl, Ne.symm (Nat.ne_of_lt I'.fr.ns.lt), none_at (h := s.heap) fun b o e => I'.fr.keep b o e⟩) fun q hq => Nat.ne_of_lt (I'.sizes q hq)
   refine codeAny_mono (hf h mt ms B G S Ev hn hA (⟨_, _, J⟩ : Is (c.hold _) g σ _) ⟨a, p1, rfl, rfl⟩ fun q hq => Nat.ne_of_lt (I'.sizes q (I'.held q hq))) fun r s' q => ?_
   cases r with
   | ok f => exact hQ f s' q
   | error e => exact q.elim
  ·rename_i e1
   refine Is.el I ?_; intro m news I'
   refine I'.listE e1 ?_; intro a its k1 p1 q1 r1
   obtain rfl := own_of p1 r
   have hz : its.toList = [] := by cases hq : its.toList with
    | nil => rfl
    | cons => rw [hq] at r1; cases r1
   have hx : its[0]? = none := by
    rw [Array.getElem?_eq_none_iff, ← Array.length_toList, hz]; simp
   refine wpAny_pyIter_list (I'.nw.isList q1) ?_
   have hal : a ≠ s.heap.objs.size := Nat.ne_of_lt (Heap.lt_size (I'.nw.get q1))
   refine codeAny_forLoop_any (fun _ s' => s' = { s with heap := s.heap.push { cls := .type "list_iterator", data := .fields #[.ref a, .int 0 0] } }) (fun m s' e => ?_) 0 rfl
   subst e
   refine wpAny_pyNext_list_end hA.hd ⟨_, Heap.get?_push_size _ rfl, rfl, rfl⟩ ((I'.nw.isList q1).push _) hx fun h' hb => ?_
   refine wpAny_execs_nil (hQ _ _ (Po.now (b := Fl.next) h trivial (I.grown fun b o e => hb b o (Nat.ne_of_lt (Heap.lt_size e)) (Heap.get?_push_of_some _ e))))
  ·rename_i a b e1
   refine br_el h ?_; clear h; intro h1 h
   refine Is.el I ?_; intro m news I'
   obtain ⟨ad, ob, p1, q1, t, t', u, rfl⟩ := I'.own i _ e1
   obtain rfl := own_of p1 r
   unfold smallR at h1
   refine br_el h1 ?_; clear h1; intro a0 h1
   refine br_el h1 ?_; clear h1; intro ab h1
   have a0 := (PySem.W.Z.leB_iff _ _).mp a0
   have ab := (PySem.W.Z.leB_iff _ _).mp ab
   have b9 := (PySem.W.Z.ltB_iff _ _).mp h1
   have hr : IsRange s.heap ad a b 1 t t' u := I'.nw.get q1
   have hn' : Builtin.Range.rangeSize a b 1 = (((b - a).toNat : Nat) : Int) := by rw [rangeSize_one]; split <;> omega
   refine wpAny_pyIter_range hr (small_one (by omega) (by omega) (by omega) (by omega)) ?_
   rw [hn']
   have J := (I'.grown (h' := s.heap.push { cls := .type "range_iterator", data := .fields #[rawInt a, rawInt (((b - a).toNat : Nat) : Int), rawInt 1] }) (t := s.toks) fun b o e => Heap.get?_push_of_some _ e).hold (p := (s.heap.objs.size, { cls := .type "range_iterator", data := .fields #[rawInt a, rawInt (((b - a).toNat : Nat) : Int), rawInt 1] }))
    (fun q hq => by rw [List.mem_singleton.mp hq]; exact ⟨Heap.get?_push_size _ rfl, Ne.symm (Nat.ne_of_lt I'.fr.ns.lt), none_at (h := s.heap) fun b o e => I'.fr.keep b o e⟩) fun q hq => Nat.ne_of_lt (I'.sizes q hq)
   refine codeAny_mono (hf h mt ms B G S Ev hn hA (⟨_, _, J⟩ : Is (c.hold _) g σ _) rfl fun q hq => Nat.ne_of_lt (I'.sizes q (I'.held q hq))) fun r s' q => ?_
   cases r with
   | ok f => exact hQ f s' q
   | error e => exact q.elim
  ·cases h
 ·cases h
noncomputable def LcA (ns : Nk) (t x : X) (te a : Expr) : Prop := ∃ n1 e x1 it elt iter px scope pos py, t = .loc n1 ∧ te = .Name (nm n1) py ∧ ns.lookup (nm n1) = some .local ∧ x = .lcp e x1 it ∧ a = .ListComp elt [⟨.Name (nm x1) px, iter, [], 0⟩] scope pos ∧ MElt e x1 elt ∧ ME ns it iter ∧ CScope scope x1
noncomputable def TpA (ns : Nk) (t : X) (te a : Expr) : Prop := ∃ ts es k p vs k' p', t = .tup ts ∧ te = .Tuple es k p ∧ a = .Tuple vs k' p' ∧ MTs ns ts es ∧ vs.all (constantsAlone 8) = false ∧ notThree es = true
theorem swaps_cases {t x : X} {te a : Expr} (m1 : MT ns t te) (m2 : ME ns x a) (l : Nat) (env : Env) : swapsWith a (some te) l env = pure false ∨ (swapsWith a (some te) l env = pure true ∧ LcA ns t x te a) := by
 cases hc : isComp a with
 | false => exact .inl (swaps_none hc)
 | true =>
  have hx : x.ctorIdx = 23 := by
   unfold isComp at hc
   rw [m2.kind] at hc
   rcases kOf_cases x.ctorIdx with h | ⟨h, _⟩ | ⟨_, h⟩
   ·rw [h] at hc; exact Bool.noConfusion hc
   ·rw [h] at hc; exact Bool.noConfusion hc
   ·exact h
  refine X.lcp.elim (motive := fun x => ME ns x a → swapsWith a (some te) l env = pure false ∨ (swapsWith a (some te) l env = pure true ∧ LcA ns t x te a)) x hx (fun e0 x1 it m2 => ?_) m2
  obtain ⟨elt, iter, px, scope, pos, rfl, me, mi, sc⟩ := m2.view
  cases m1 with
  | loc hl =>
   rename_i n1 py
   have e0 : ∃ b : Bool, swapsWith (.ListComp elt [⟨.Name (nm x1) px, iter, [], 0⟩] scope pos) (some (.Name (nm n1) py)) l env = pure b := ⟨_, rfl⟩
   obtain ⟨b, e0⟩ := e0
   cases b with
   | false => exact .inl e0
   | true => exact .inr ⟨e0, _, _, _, _, _, _, _, _, _, _, rfl, rfl, hl, rfl, rfl, me, mi, sc⟩
  | _ => exact .inl rfl
theorem swapped_none {ts : List Expr} {k : Nat} {p : Pos} {a : Expr} {env : Env} (h : kindE a ≠ 2) : swappedStores [.Tuple ts k p] a env = pure none := by cases a <;> first | rfl | exact absurd rfl h
theorem swapped_no {t x : X} {te a : Expr} (m1 : MT ns t te) (m2 : ME ns x a) (hp : okPair te a = true) (env : Env) : swappedStores [te] a env = pure none ∨ TpA ns t te a := by
 cases m1 with
 | tup mt =>
  have k := m2.kind
  rcases kOf_cases x.ctorIdx with h | ⟨_, hx⟩ | ⟨h, _⟩
  ·exact .inl (swapped_none (by rw [k, h]; decide))
  ·revert hp
   refine X.tup.elim (motive := fun x => ME ns x a → okPair _ a = true → swappedStores [_] a env = pure none ∨ TpA ns _ _ a) x hx (fun xs m2 hp => ?_) m2
   obtain ⟨vs, k', p', rfl, me⟩ := m2.view
   exact .inr ⟨_, _, _, _, _, _, _, rfl, rfl, rfl, mt, by simpa using (an_true (show an _ _ = true from hp)).1, (an_true (show an _ _ = true from hp)).2⟩
  ·exact .inl (swapped_none (by rw [k, h]; decide))
 | _ => exact .inl rfl
theorem rest_asg (ha : SA K n) (B : Base c) (G : Globs c) (S : Stat c K) (Ev : EnvOk c env) (hn : env.scope.names = ns) (hA : AOk A n) {t x : X} {te a : Expr} {p : Pos} (m1 : MT ns t te) (m2 : ME ns x a) (hp : okPair te a = true) (hsw : swapsWith a (some te) p.line env = pure false) :
  ∃ r, exec (.Assign [te] a p) env = (do
   standAt p
   let v ← eval a env
   assignStores env v r [assign te env]) ∧ ∀ {xv : XV} {k : KU} {v : Value} {g : Ow} {σ : XSt} {s : Shared}, (ev tab n).a t xv σ k = true → RelV c.π g xv v → Is c g σ s →
   wpAny (model pg c.w) A (assignStores env v r [assign te env]) (fun f s' => f = .next ∧ ∃ σ' g', k σ' = true ∧ Grow g g' ∧ Is c g' σ' s') E s := by
 have plain : ∀ {xv : XV} {k : KU} {v : Value} {g : Ow} {σ : XSt} {s : Shared}, (ev tab n).a t xv σ k = true → RelV c.π g xv v → Is c g σ s →
   wpAny (model pg c.w) A (assignStores env v none [assign te env]) (fun f s' => f = .next ∧ ∃ σ' g', k σ' = true ∧ Grow g g' ∧ Is c g' σ' s') E s := fun h r I => by
  show wpAny _ A (assign te env _ >>= fun _ => pure Flow.next) _ E _
  exact wpAny_bind (Po.go (ha h m1 B G S Ev hn hA I r) fun _ s' _ σ' g' h' G' _ I' => wpAny_pure ⟨rfl, σ', g', h', G', I'⟩)
 rcases swapped_no m1 m2 hp env with h2 | ⟨ts, es, k0, p0, vs, k1, p1, rfl, rfl, rfl, mt, hc, h3⟩
 ·exact ⟨none, exec_asg hsw h2 (by rw [assignEach_cons m1]; rfl), plain⟩
 ·obtain ⟨r, e2, e3⟩ := swapped_cases (es := es) (k := k0) (p := p0) (k' := k1) (p' := p1) (env := env) hc
  refine ⟨r, exec_asg hsw e2 rfl, ?_⟩
  cases r with
  | none => exact plain
  | some names =>
   intro xv k v g σ s h r I
   obtain ⟨z1, z2, z3, z4⟩ := e3 names rfl
   cases n with
   | zero => exact nomatch h
   | succ n =>
    refine wpAny_mono (swap_ok (k := fun f σ => match f with | .next => k σ | .ret _ => false) hA.down Ev hn (show unpX (ev tab n) ts xv σ k = true from h) mt I r z1 z2 z3 z4 h3) (fun f s' q => ?_) fun _ _ e => e
    refine Po.elim q fun fl σ' g' h' G' rf I' => ?_
    cases fl with
    | next => cases f <;> first | exact ⟨rfl, σ', g', h', G', I'⟩ | exact rf.elim
    | ret _ => exact nomatch h'
end
section
variable {K : Frag} {n : Nat}
theorem s_ok (W : Words) (he : SE K n) (ht : ST K n) (ha : SA K n) (hss : SSs K n) (hf : SFl K n) (he2 : ∀ m, m < n → SE K m) (hcl : ∀ m, m < n → SCl K m) : SS K (n + 1) := by
 intro x st σ k h ns m c g s A E env B G S Ev hn hA I
 change stepS (ev tab n) x σ k = true at h
 have hA' := hA.down
 cases m with
 | ex m1 hcp =>
  rename_i x1 a1 p
  change (ev tab n).e x1 σ (fun v σ => br (isRef v) false (k .next σ)) = true at h
  refine wpAny_Expr (Po.go (he h m1 B G S Ev hn hA' I) fun v s1 xv σ1 g1 h1 G1 r1 I1 => ?_) (by unfold interactive; rw [Ev.kind]; rfl) (swaps_none hcp)
  obtain ⟨hr, h1⟩ := br_false h1
  have nr := notRef hr r1
  cases v with
  | ref a => exact nr a rfl
  | _ => exact ⟨.next, σ1, g1, h1, G1, trivial, I1⟩
 | asg m1 m2 hp =>
  rename_i t1 x1 b1 a1 p
  change (ev tab n).e x1 σ (fun x σ => (ev tab n).a t1 x σ fun σ => k .next σ) = true at h
  rcases swaps_cases m1 m2 p.line env with hsw | ⟨hsw, n1, e1, y1, it, elt, iter, px, scope, pos, py, rfl, rfl, hl, rfl, rfl, me, mi, sc⟩
  ·obtain ⟨r, er, hr⟩ := rest_asg (E := E) ha B G S Ev hn hA' m1 m2 hp hsw
   rw [er]
   refine wpAny_bind (wpAny_standAt (Po.next (he h m2 B G S Ev hn hA' I) fun v xv σ1 g1 s1 h1 G1 r1 I1 => ?_))
   refine wpAny_mono (hr (k := fun σ => k .next σ) h1 r1 I1) (fun f s2 q => ?_) fun _ _ e => e
   obtain ⟨rfl, σ', g', h', G', I'⟩ := q
   exact ⟨.next, σ', g', h', G', trivial, I'⟩
  ·cases n with
   | zero => exact nomatch h
   | succ n =>
    change (ev tab n).e it σ (fun iv σ => lcX (ev tab n) e1 iv σ fun b σ => k .next { σ with loc := put n1 b σ.loc }) = true at h
    exact lcp_asg (he2 n (Nat.lt_succ_self n)) (hcl n (Nat.lt_succ_self n)) W B G S Ev hn hA'.down h me mi sc hl I hsw fun s' g' σ' h' G' I' => ⟨.next, σ', g', h', G', trivial, I'⟩
 | aug hl hd m1 =>
  rename_i n1 op x1 a1 q p
  change nameX n1 σ (fun a σ => (ev tab n).e x1 σ fun b σ => augX op a b fun x => k .next { σ with loc := put n1 x σ.loc }) = true at h
  refine wpAny_AugAssign_Name (Po.go (loc_ok (p := default) h hl hd Ev hn I) fun v s1 xv σ1 g1 h1 G1 r1 I1 => ?_)
  refine Po.go (he h1 m1 B G S Ev hn hA' I1) fun u s2 yv σ2 g2 h2 G2 r2 I2 => ?_
  refine wpAny_mono (augX_ok h2 I2 (r1.grow G2) r2) (fun w s3 q => ?_) fun _ _ e => e
  obtain ⟨z, h3, r3, I3⟩ := q
  refine Po.go (store_ok (k := k .next) h3 hl Ev hn I3 r3) fun _ s4 _ σ4 g4 h4 G4 _ I4 => ?_
  exact ⟨.next, σ4, g4, h4, (G1.trans G2).trans G4, trivial, I4⟩
 | ift m1 m2 m3 =>
  rename_i x1 y1 z1 a1 b1 c1 p
  change (ev tab n).t x1 σ (fun q σ => br q ((ev tab n).ss y1 σ k) ((ev tab n).ss z1 σ k)) = true at h
  refine wpAny_If (wpAny_mono (ht h m1 B G S Ev hn hA' I) (fun t s1 q => ?_) fun _ _ e => e)
  obtain ⟨b, σ1, g1, h1, G1, rfl, I1⟩ := q
  cases b with
  | true => exact wpAny_mono (hss h1 m2 B G S Ev hn hA' I1) (fun _ _ q => q.up G1) fun _ _ e => e
  | false => exact wpAny_mono (hss h1 m3 B G S Ev hn hA' I1) (fun _ _ q => q.up G1) fun _ _ e => e
 | ret0 => exact wpAny_Return_none (Po.now (b := Fl.ret .none) h rfl I)
 | ret m1 =>
  rename_i x1 a1 p
  change (ev tab n).e x1 σ (fun x σ => k (.ret x) σ) = true at h
  refine wpAny_Return_some (Po.go (he h m1 B G S Ev hn hA' I) fun v s1 xv σ1 g1 h1 G1 r1 I1 => ?_)
  exact ⟨.ret xv, σ1, g1, h1, G1, r1, I1⟩
 | rai => exact nomatch h
 | whl m1 =>
  rename_i x1 a1 b1 p
  change (ev tab n).t x1 σ (fun q σ => br q false (k .next σ)) = true at h
  refine wpAny_While (codeAny_whileLoop (fun _ s' => s' = s) (fun _ s' e => ?_) 0 rfl)
  subst e
  refine wpAny_mono (ht h m1 B G S Ev hn hA' I) (fun b s2 q => ?_) fun _ _ e => e
  obtain ⟨b', σ1, g1, h1, G1, rfl, I1⟩ := q
  obtain ⟨hb, h1⟩ := br_false h1
  subst hb
  exact wpAny_execs_nil (show Po c g (RFl c.π) k Flow.next s2 from ⟨.next, σ1, g1, h1, G1, trivial, I1⟩)
 | for_ mt m1 ms =>
  rename_i t1 x1 y1 b1 a1 d1 p
  change (ev tab n).e x1 σ (fun o σ => forX (ev tab n) t1 y1 o σ k) = true at h
  refine wpAny_For (Po.go (he h m1 B G S Ev hn hA' I) fun v s1 xv σ1 g1 h1 G1 r1 I1 => ?_) (folded_no m1 env)
  exact for_ok ha hss hf B G S Ev hn hA' h1 mt ms I1 r1 fun f s' q => q.up G1
end
end
end Mine
set_option maxRecDepth 100000
set_option genInjectivity false
set_option genSizeOf false
namespace Mine
open PySem PySem.W PySem.Calls PyProof.Rows PySem.SeqAt PyProof.V PySem.Spec
section
structure AllOk (K : Frag) (n : Nat) : Prop where
 e : SE K n
 t : ST K n
 bo : SBo K n
 bt : SBt K n
 es : SEs K n
 s : SS K n
 ss : SSs K n
 c : SC K n
 cm : SCm K n
 as : SAs K n
 a : SA K n
 fl : SFl K n
 cl : SCl K n
 eq : SEq n
 el : SEl n
 ct : SCt n
 rm : SRm n
structure Facts (K : Frag) : Prop where
 wd : Words
 fn : ∀ {c : Cx}, Base c → Globs c → Stat c K → Funs c K
 tb : TabsOk K
theorem all_zero (K : Frag) : AllOk K 0 :=
 ⟨(fun h => nomatch h), (fun h => nomatch h), (fun h => nomatch h), (fun h => nomatch h), (fun h => nomatch h), (fun h => nomatch h), (fun h => nomatch h), (fun h => nomatch h), (fun h => nomatch h), (fun h => nomatch h), (fun h => nomatch h), (fun h => nomatch h), (fun h => nomatch h), (fun h => nomatch h), (fun h => nomatch h), (fun h => nomatch h), (fun h => nomatch h)⟩
theorem all_ok {K : Frag} (F : Facts K) : ∀ n, ∀ m, m ≤ n → AllOk K m
 | 0, m, h => by obtain rfl := Nat.le_zero.mp h; exact all_zero K
 | n + 1, m, h => by
  rcases Nat.lt_or_ge m (n + 1) with h' | h'
  ·exact all_ok F n m (Nat.le_of_lt_succ h')
  ·obtain rfl : m = n + 1 := Nat.le_antisymm h h'
   have I := all_ok F n
   have J := I n (Nat.le_refl n)
   exact { e := e_ok F.wd J.e J.t J.es J.bo J.eq J.ct (fun hm => (I _ hm).c) J.rm F.tb J.cl, t := t_ok J.e J.t J.bt J.eq J.ct, bo := bo_ok J.e J.bo, bt := bt_ok J.t J.bt, es := es_ok J.e J.es, s := s_ok F.wd J.e J.t J.a J.ss J.fl (fun m hm => (I m (Nat.le_of_lt hm)).e) (fun m hm => (I m (Nat.le_of_lt hm)).cl), ss := ss_ok J.s J.ss, c := c_ok F.fn J.ss, cm := cm_ok F.fn J.ss, as := as_ok J.a J.as, a := a_ok J.e J.as, fl := fl_ok J.a J.ss J.fl, cl := cl_ok J.cm J.cl, eq := eq_ok J.el, el := el_ok J.eq J.el, ct := ct_ok J.ct, rm := rm_ok J.rm }
end
end Mine
set_option maxRecDepth 100000
set_option genInjectivity false
set_option genSizeOf false
namespace Mine
open PySem PySem.W PySem.Calls PyProof.Rows PySem.SeqAt PyProof.V PySem.Spec
section
noncomputable def eqS (a b : Str) : Bool := Fast.lEq a.cps.toList b.cps.toList
theorem eqS_is {a b : Str} (h : eqS a b = true) : a = b := by
 obtain ⟨⟨l⟩⟩ := a
 obtain ⟨⟨l'⟩⟩ := b
 have := Fast.lEq_iff.mp h
 simp only at this
 rw [this]
theorem eqS_iff {a b : Str} : eqS a b = (a == b) := by
 rw [Bool.eq_iff_iff, beq_iff_eq]
 exact ⟨eqS_is, fun e => by subst e; exact Fast.lEq_iff.mpr rfl⟩
noncomputable def lkS (s : Str) (ns : Nk) : Option NameKind := @List.rec (Str × NameKind) (fun _ => Option NameKind) none (fun p _ ih => br (eqS s p.1) (some p.2) ih) ns
theorem lkS_is (s : Str) : ∀ ns : Nk, lkS s ns = ns.lookup s
 | [] => rfl
 | (a, k) :: r => by
  show br (eqS s a) (some k) (lkS s r) = _
  rw [List.lookup_cons, lkS_is s r, eqS_iff]
  cases s == a <;> rfl
noncomputable def isK (k : NameKind) (o : Option NameKind) : Bool := match o with
 | none => false
 | some k' => match k, k' with
  | .local, .local => true
  | .globalImplicit, .globalImplicit => true
  | _, _ => false
theorem nof {p : Prop} (h : false = true) : p := Bool.noConfusion h
theorem not_t {b : Bool} (h : (!b) = true) : b = false := by cases b <;> first | rfl | exact nof h
theorem isK_is {k : NameKind} {o : Option NameKind} (h : isK k o = true) : o = some k := by
 cases o with
 | none => exact nof h
 | some o => cases k <;> cases o <;> first | exact nof h | rfl
noncomputable def locB (ns : Nk) (s : Str) : Bool := isK .local (lkS s ns)
noncomputable def glbB (ns : Nk) (s : Str) : Bool := isK .globalImplicit (lkS s ns)
theorem locB_is {ns s} (h : locB ns s = true) : ns.lookup s = some .local := by rw [← lkS_is]; exact isK_is h
theorem glbB_is {ns s} (h : glbB ns s = true) : ns.lookup s = some .globalImplicit := by rw [← lkS_is]; exact isK_is h
noncomputable def dbg : Str := "__debug__"
noncomputable def okB (s : Str) : Bool := !eqS s dbg
theorem okB_is {s : Str} (h : okB s = true) : okName s := by
 unfold okB at h
 rw [eqS_iff] at h
 show (s == dbg) = false
 simpa using h
noncomputable def supS : Str := "super"
noncomputable def plB (e : Expr) : Bool := match e with
 | .Call (.Name id _) _ _ _ => !eqS id supS
 | _ => true
theorem plB_is {e : Expr} (h : plB e = true) : plainBase e := by
 cases e <;> try trivial
 rename_i f as kw p
 cases f <;> try trivial
 rename_i id q
 cases as <;> cases kw <;> try trivial
 have h : (!eqS id supS) = true := h
 rw [eqS_iff] at h
 show (id != supS) = true
 simpa [bne] using h
noncomputable def an3 (a b c : Bool) : Bool := an a (an b c)
theorem an3_is {a b c : Bool} (h : an3 a b c = true) : a = true ∧ b = true ∧ c = true := by
 refine an_el h ?_; intro x y
 exact ⟨x, an_true y⟩
theorem an3_el {a b c : Bool} {P : Prop} (h : an3 a b c = true) (f : a = true → b = true → c = true → P) : P := f (an3_is h).1 (an3_is h).2.1 (an3_is h).2.2
noncomputable def namesAll (f : Str × NameKind → Bool) (ns : Nk) : Bool := @List.rec (Str × NameKind) (fun _ => Bool) true (fun p _ ih => an (f p) ih) ns
theorem namesAll_is {f : Str × NameKind → Bool} : ∀ {ns : Nk}, namesAll f ns = true → ∀ y ∈ ns, f y = true
 | p :: r, h, y, hy => by
  refine an_el (show an (f p) (namesAll f r) = true from h) ?_; intro a b
  rcases List.mem_cons.mp hy with rfl | hy
  ·exact a
  ·exact namesAll_is b y hy
noncomputable def noCF (p : Str × NameKind) : Bool := match p.2 with
 | .cell => false
 | .free => false
 | _ => true
theorem noCF_is {p : Str × NameKind} (h : noCF p = true) : p.2 ≠ .cell ∧ p.2 ≠ .free := by
 obtain ⟨a, k⟩ := p
 cases k <;> first | exact nof h | exact ⟨(fun e => NameKind.noConfusion e), fun e => NameKind.noConfusion e⟩
noncomputable def funK (k : ScopeKind) : Bool := match k with
 | .function => true
 | _ => false
theorem funK_is {k : ScopeKind} (h : funK k = true) : k = .function := by cases k <;> first | rfl | exact nof h
noncomputable def locAll (ns : Nk) (p : Str × NameKind) : Bool := match p.2 with
 | .local => locB ns p.1
 | _ => true
noncomputable def scB (sc : Scope) (x : Nat) : Bool := an (an3 (funK sc.kind) (namesAll noCF sc.names) (namesAll (locAll sc.names) sc.names)) (locB sc.names (nm x))
theorem scB_is {sc x} (h : scB sc x = true) : CScope sc x := by
 refine an_el h ?_; intro h1 h2
 refine an3_el h1 ?_; intro a1 a2 a3
 refine ⟨funK_is a1, fun y hy => noCF_is (namesAll_is a2 y hy), fun y hy e => ?_, locB_is h2⟩
 have := namesAll_is a3 y hy
 unfold locAll at this
 rw [e] at this
 exact locB_is this
noncomputable def lt30 {α : Type} (l : List α) : Bool := Nat.blt l.length 30
noncomputable def getS : Str := "get"
theorem nos {α : Type} {y : α} {p : Prop} (h : none = some y) : p := by cases h
noncomputable def oB {α β : Type} (o : Option α) (k : α → Option β) : Option β := @Option.rec α (fun _ => Option β) none k o
theorem oB_el {α β : Type} {o : Option α} {k : α → Option β} {y : β} {P : Prop} (h : oB o k = some y) (f : ∀ a, o = some a → k a = some y → P) : P := by
 cases o with
 | none => exact nos h
 | some a => exact f a rfl h
noncomputable def gd {β : Type} (b : Bool) (o : Option β) : Option β := br b o none
theorem gd_el {β : Type} {b : Bool} {o : Option β} {y : β} {P : Prop} (h : gd b o = some y) (f : b = true → o = some y → P) : P := by
 cases b with
 | false => exact nos h
 | true => exact f rfl h
theorem som {α : Type} {x y : α} (h : some x = some y) : x = y := Option.some.inj h
noncomputable def idx (s : Str) : Nat := @List.rec Str (fun _ => Nat) 0 (fun t _ ih => br (eqS s t) 0 (Nat.succ ih)) nmTab
noncomputable def nmI {β : Type} (s : Str) (k : Nat → Option β) : Option β := gd (eqS s (nm (idx s))) (k (idx s))
theorem nmI_el {β : Type} {s : Str} {k : Nat → Option β} {y : β} {P : Prop} (h : nmI s k = some y) (f : ∀ i, s = nm i → k i = some y → P) : P := gd_el h fun a b => f _ (eqS_is a) b
noncomputable def kStr (c : Const) : Option Nat := match c with
 | .str s => nmI s some
 | _ => none
theorem kStr_is {c n} (h : kStr c = some n) : c = .str (nm n) := by
 cases c <;> try exact nos h
 refine nmI_el h ?_; clear h; intro i e90 h; subst e90
 rw [som h]
noncomputable def eStr (e : Expr) : Option Nat := match e with
 | .Constant c _ _ => kStr c
 | _ => none
theorem eStr_is {e n} (h : eStr e = some n) : ∃ k p, e = .Constant (.str (nm n)) k p := by
 cases e <;> try exact nos h
 rw [kStr_is h]
 exact ⟨_, _, rfl⟩
noncomputable def vsts (l : List Expr) : Option (List Nat) := @List.rec Expr (fun _ => Option (List Nat)) (some []) (fun e _ ih => oB (eStr e) fun n => oB ih fun ns => some (n :: ns)) l
theorem vsts_is : ∀ {l ns}, vsts l = some ns → VSt ns l
 | [], ns, h => by obtain rfl := som h; exact .nil
 | e :: l, ns, h => by
  refine oB_el (show oB (eStr e) _ = some ns from h) ?_; clear h; intro n h1 h
  refine oB_el h ?_; clear h; intro ms h2 h
  obtain rfl := som h
  obtain ⟨k, p, rfl⟩ := eStr_is h1
  exact .cons (vsts_is h2)
noncomputable def ksts (l : List (Option Expr)) : Option (List Nat) := @List.rec (Option Expr) (fun _ => Option (List Nat)) (some []) (fun e _ ih => oB e fun e => oB (eStr e) fun n => oB ih fun ns => some (n :: ns)) l
theorem ksts_is : ∀ {l ns}, ksts l = some ns → KSt ns l
 | [], ns, h => by obtain rfl := som h; exact .nil
 | e :: l, ns, h => by
  refine oB_el (show oB e _ = some ns from h) ?_; clear h; intro e e90 h; subst e90
  refine oB_el h ?_; clear h; intro n h1 h
  refine oB_el h ?_; clear h; intro ms h2 h
  obtain rfl := som h
  obtain ⟨k, p, rfl⟩ := eStr_is h1
  exact .cons (ksts_is h2)
structure Tk where
 e : Nk → Expr → Option X
 es : Nk → List Expr → Option X
 t : Nk → Expr → Option X
 ts : Nk → List Expr → Option X
 s : Nk → Stmt → Option X
 ss : Nk → List Stmt → Option X
noncomputable def cX (c : Const) : Option X := match c with
 | .int i => some (.k (.int (.k i)))
 | .none => some (.k .none)
 | .bool b => some (.k (.bool b))
 | .str s => nmI s fun n => some (.k (.str n))
 | .bytes l => some (.k (.bytes (.k l)))
 | _ => none
theorem cX_is {ns c k p x} (h : cX c = some x) : ME ns x (.Constant c k p) := by
 cases c <;> try exact nos h
 case int => obtain rfl := som h; exact .kI
 case none => obtain rfl := som h; exact .kN
 case bool => obtain rfl := som h; exact .kB
 case bytes => obtain rfl := som h; exact .kY
 case str t => refine nmI_el (show nmI t (fun n => some (X.k (XV.str n))) = some x from h) ?_; clear h; intro i e90 h; subst e90; obtain rfl := som h; exact .kS
noncomputable def nX' (k : Option NameKind) (n : Nat) : Option X := oB k fun k => match k with
 | .local => some (.loc n)
 | .globalImplicit => some (.glb n)
 | _ => none
theorem nX_is {ns : Nk} {n p x} (h : nX' (lkS (nm n) ns) n = some x) (hd : okName (nm n)) : ME ns x (.Name (nm n) p) := by
 refine oB_el h ?_; clear h; intro k e h
 rw [lkS_is] at e
 cases k <;> try exact nos h
 ·obtain rfl := som h; exact .loc e hd
 ·obtain rfl := som h; exact .glb e hd
noncomputable def bX (op : BoolOp) (xs : X) : X := match op with
 | .And => .and_ xs
 | .Or => .or_ xs
noncomputable def uX (op : UnaryOp) (x : X) : Option X := match op with
 | .USub => some (.neg x)
 | .Not => some (.not_ x)
 | _ => none
noncomputable def two (ih : Tk) (ns : Nk) (a b : Expr) (k : X → X → X) : Option X := oB (ih.e ns a) fun x => oB (ih.e ns b) fun y => some (k x y)
noncomputable def thr (ih : Tk) (ns : Nk) (a b c : Expr) (k : X → X → X → X) : Option X := oB (ih.e ns a) fun x => oB (ih.e ns b) fun y => oB (ih.e ns c) fun z => some (k x y z)
noncomputable def hd1 {α β : Type} (l : List α) (k : α → List α → Option β) : Option β := @List.rec α (fun _ => Option β) none (fun a r _ => k a r) l
noncomputable def em {α β : Type} (l : List α) (o : Option β) : Option β := @List.rec α (fun _ => Option β) o (fun _ _ _ => none) l
theorem hd1_el {α β : Type} {l : List α} {k : α → List α → Option β} {y : β} {P : Prop} (h : hd1 l k = some y) (f : ∀ a r, l = a :: r → k a r = some y → P) : P := by
 cases l with
 | nil => exact nos h
 | cons a r => exact f a r rfl h
theorem em_el {α β : Type} {l : List α} {o : Option β} {y : β} {P : Prop} (h : em l o = some y) (f : l = [] → o = some y → P) : P := by
 cases l with
 | nil => exact f rfl h
 | cons a r => exact nos h
noncomputable def cmX (ih : Tk) (ns : Nk) (a : Expr) (ops : List CmpOp) (bs : List Expr) : Option X := hd1 ops fun op ops => hd1 bs fun b bs => match ops with
 | [] => em bs (two ih ns a b (.cmp op))
 | op' :: ops => em ops (hd1 bs fun c bs => em bs (thr ih ns a b c (.cmp2 op op')))
noncomputable def dX (ks : List (Option Expr)) (vs : List Expr) : Option X := match ks with
 | [] => em vs (some .dic)
 | _ :: _ => oB (ksts ks) fun kn => oB (vsts vs) fun vn => gd (an3 (Nat.beq kn.length vn.length) (Nat.blt 0 kn.length) (an (Nat.ble kn.length 15) (apartN kn))) (some (.dics kn vn))
noncomputable def slX' (ih : Tk) (ns : Nk) (a : Expr) (lo hi st : Option Expr) : Option X := match st with
 | some _ => none
 | none => match lo with
  | some b => match hi with
   | none => two ih ns a b .sll
   | some c => thr ih ns a b c .slb
  | none => oB hi fun b => two ih ns a b .slh
noncomputable def sbX (ih : Tk) (ns : Nk) (a s : Expr) : Option X := match s with
 | .Slice lo hi st _ => slX' ih ns a lo hi st
 | s => two ih ns a s .sub
noncomputable def dNam (e : Expr) : Option Str := match e with
 | .Name id _ => some id
 | _ => none
theorem dNam_is {e id} (h : dNam e = some id) : ∃ p, e = .Name id p := by
 cases e <;> try exact nos h
 rw [← som h]; exact ⟨_, rfl⟩
noncomputable def dAtt (e : Expr) : Option (Expr × Str × Pos) := match e with
 | .Attribute a s q => some (a, s, q)
 | _ => none
theorem dAtt_is {e r} (h : dAtt e = some r) : e = .Attribute r.1 r.2.1 r.2.2 := by
 cases e <;> try exact nos h
 rw [← som h]
noncomputable def dCal (e : Expr) : Option (Expr × List Expr × Pos) := match e with
 | .Call f es kw p => em kw (some (f, es, p))
 | _ => none
theorem dCal_is {e r} (h : dCal e = some r) : e = .Call r.1 r.2.1 [] r.2.2 := by
 cases e <;> try exact nos h
 refine em_el h ?_; clear h; intro e90 h; subst e90
 rw [← som h]
noncomputable def gNm (ns : Nk) {β : Type} (e : Expr) (k : Nat → Option β) : Option β := oB (dNam e) fun id => gd (an (okB id) (glbB ns id)) (nmI id k)
theorem gNm_el {ns : Nk} {β : Type} {e : Expr} {k : Nat → Option β} {y : β} {P : Prop} (h : gNm ns e k = some y) (f : ∀ n p, e = .Name (nm n) p → okName (nm n) → ns.lookup (nm n) = some .globalImplicit → k n = some y → P) : P :=
 oB_el h fun id a h => gd_el h fun b h => nmI_el h fun n e hk => by
  obtain ⟨p, rfl⟩ := dNam_is a
  subst e
  exact f n p rfl (okB_is (an_true b).1) (glbB_is (an_true b).2) hk
noncomputable def lNm (ns : Nk) {β : Type} (e : Expr) (k : Nat → Option β) : Option β := oB (dNam e) fun id => gd (an (okB id) (locB ns id)) (nmI id k)
theorem lNm_el {ns : Nk} {β : Type} {e : Expr} {k : Nat → Option β} {y : β} {P : Prop} (h : lNm ns e k = some y) (f : ∀ n p, e = .Name (nm n) p → okName (nm n) → ns.lookup (nm n) = some .local → k n = some y → P) : P :=
 oB_el h fun id a h => gd_el h fun b h => nmI_el h fun n e hk => by
  obtain ⟨p, rfl⟩ := dNam_is a
  subst e
  exact f n p rfl (okB_is (an_true b).1) (locB_is (an_true b).2) hk
noncomputable def tup2 (ns : Nk) (e : Expr) {β : Type} (k : Nat → Nat → Option β) : Option β := match e with
 | .Tuple l _ _ => hd1 l fun a l => hd1 l fun b l => em l (lNm ns a fun x => lNm ns b fun y => k x y)
 | _ => none
noncomputable def tgX' (ns : Nk) (f : Expr) (l : Nat) (es : List Expr) : Option X := oB (dAtt f) fun r => oB (dCal r.1) fun c => em c.2.1 (hd1 es fun t es => em es (gd (an (eqS r.2.1 getS) (Nat.beq r.2.2.endLine l)) (gNm ns c.1 fun f => gd (!eqS (nm f) supS) (tup2 ns t fun x y => some (.tg f x y)))))
noncomputable def alt {β : Type} (a b : Option β) : Option β := @Option.rec β (fun _ => Option β) b some a
theorem alt_is {β : Type} {a b : Option β} {y : β} (h : alt a b = some y) : a = some y ∨ b = some y := by
 cases a with
 | none => exact .inr h
 | some a => exact .inl h
noncomputable def meX (ih : Tk) (ns : Nk) (f : Expr) (es : List Expr) (l : Nat) : Option X := oB (dAtt f) fun r => gd (an3 (plB r.1) (lt30 es) (Nat.beq r.2.2.endLine l)) (nmI r.2.1 fun n => oB (ih.e ns r.1) fun x => oB (ih.es ns es) fun xs => some (.met x n xs))
noncomputable def caX (ih : Tk) (ns : Nk) (f : Expr) (es : List Expr) : Option X := gd (!isAttr f) (oB (ih.e ns f) fun x => oB (ih.es ns es) fun xs => some (.cal x xs))
noncomputable def elR (id : Str) (a : Expr) : Option (Option Nat) := oB (dCal a) fun c => oB (dAtt c.1) fun r => oB (dNam r.1) fun id' => em c.2.1 (gd (an3 (eqS id' id) (okB id) (Nat.beq r.2.2.endLine c.2.2.line)) (nmI r.2.1 fun n => some (some n)))
noncomputable def elX (id : Str) (a : Expr) : Option (Option Nat) := match a with
 | .List l _ => em l (some none)
 | a => elR id a
theorem elR_is {n a e} (h : elR (nm n) a = some e) : MElt e n a := by
 refine oB_el h ?_; clear h; intro c q1 h
 refine oB_el h ?_; clear h; intro r q2 h
 refine oB_el h ?_; clear h; intro id q3 h
 refine em_el h ?_; clear h; intro q4 h
 refine gd_el h ?_; clear h; intro q5 h
 refine nmI_el h ?_; clear h; intro i q6 h
 obtain ⟨f, es, p⟩ := c
 obtain ⟨b, s, q⟩ := r
 refine an3_el q5 ?_; intro a1 a2 a3
 have e1 := dCal_is q1
 have e2 := dAtt_is q2
 obtain ⟨px, e3⟩ := dNam_is q3
 dsimp only at e1 e2 e3 q4 q6 a3
 subst e3 e2 q4 e1 q6
 obtain rfl := som h
 rw [eqS_is a1]
 exact .row (okB_is a2) (Nat.eq_of_beq_eq_true a3)
theorem elX_is {n a e} (h : elX (nm n) a = some e) : MElt e n a := by
 cases a <;> try exact elR_is h
 refine em_el h ?_; clear h; intro e90 h; subst e90
 obtain rfl := som h
 exact .emp
noncomputable def lcX' (ih : Tk) (ns : Nk) (elt : Expr) (g : Comprehension) (sc : Scope) : Option X := oB (dNam g.target) fun id => em g.ifs (gd (W.Z.eqB g.is_async 0) (nmI id fun n => gd (scB sc n) (oB (elX (nm n) elt) fun el => oB (ih.e ns g.iter) fun x => some (.lcp el n x))))
noncomputable def trE (ih : Tk) (ns : Nk) (e : Expr) : Option X := match e with
 | .Constant c _ _ => cX c
 | .Name id _ => gd (okB id) (nmI id fun n => nX' (lkS id ns) n)
 | .BoolOp op es _ => oB (ih.es ns es) fun xs => some (bX op xs)
 | .BinOp a op b _ => two ih ns a b (.bin op)
 | .UnaryOp op a _ => oB (ih.e ns a) fun x => uX op x
 | .IfExp a b c _ => thr ih ns a b c .ife
 | .Compare a ops bs _ => cmX ih ns a ops bs
 | .Tuple es _ _ => oB (ih.es ns es) fun xs => some (.tup xs)
 | .List es _ => oB (ih.es ns es) fun xs => some (.lst xs)
 | .Dict ks vs _ => dX ks vs
 | .Subscript a s _ => sbX ih ns a s
 | .Attribute a s _ => gd (plB a) (nmI s fun n => oB (ih.e ns a) fun x => some (.att x n))
 | .Call f es kw p => em kw (alt (tgX' ns f p.line es) (alt (meX ih ns f es p.line) (caX ih ns f es)))
 | .ListComp elt gs sc _ => hd1 gs fun g gs => em gs (lcX' ih ns elt g sc)
 | _ => none
noncomputable def trEs (ih : Tk) (ns : Nk) (l : List Expr) : Option X := match l with
 | [] => some .nil
 | a :: r => oB (ih.e ns a) fun x => oB (ih.es ns r) fun xs => some (.cons x xs)
noncomputable def trTs (ih : Tk) (ns : Nk) (l : List Expr) : Option X := match l with
 | [] => some .nil
 | a :: r => oB (ih.t ns a) fun x => oB (ih.ts ns r) fun xs => some (.cons x xs)
noncomputable def trSs (ih : Tk) (ns : Nk) (l : List Stmt) : Option X := match l with
 | [] => some .nil
 | a :: r => oB (ih.s ns a) fun x => oB (ih.ss ns r) fun xs => some (.cons x xs)
noncomputable def trT (ih : Tk) (ns : Nk) (e : Expr) : Option X := match e with
 | .Name id _ => gd (locB ns id) (nmI id fun n => some (.loc n))
 | .Attribute a s _ => nmI s fun n => oB (ih.e ns a) fun x => some (.att x n)
 | .Subscript a b _ => two ih ns a b .sub
 | .Tuple es _ _ => oB (ih.ts ns es) fun xs => some (.tup xs)
 | _ => none
noncomputable def trS (ih : Tk) (ns : Nk) (st : Stmt) : Option X := match st with
 | .Expr a _ => gd (!isComp a) (oB (ih.e ns a) fun x => some (.ex x))
 | .Assign ts a _ => hd1 ts fun t ts => em ts (gd (okPair t a) (oB (ih.t ns t) fun x => oB (ih.e ns a) fun y => some (.asg x y)))
 | .AugAssign t op a _ => lNm ns t fun n => oB (ih.e ns a) fun x => some (.aug n op x)
 | .If a b d _ => oB (ih.e ns a) fun x => oB (ih.ss ns b) fun y => oB (ih.ss ns d) fun z => some (.ift x y z)
 | .For t i b o _ => em o (oB (ih.t ns t) fun x => oB (ih.e ns i) fun y => oB (ih.ss ns b) fun z => some (.for_ x y z))
 | .While a _ o _ => em o (oB (ih.e ns a) fun x => some (.whl x))
 | .Return o _ => match o with
  | none => some .ret0
  | some a => oB (ih.e ns a) fun x => some (.ret x)
 | .Raise _ _ _ => some .rai
 | _ => none
noncomputable def tr (n : Nat) : Tk := @Nat.rec (fun _ => Tk) ⟨fun _ _ => none, fun _ _ => none, fun _ _ => none, fun _ _ => none, fun _ _ => none, fun _ _ => none⟩ (fun _ ih => ⟨trE ih, trEs ih, trT ih, trTs ih, trS ih, trSs ih⟩) n
structure TkOk (k : Tk) : Prop where
 e : ∀ {ns a x}, k.e ns a = some x → ME ns x a
 es : ∀ {ns a x}, k.es ns a = some x → MEs ns x a
 t : ∀ {ns a x}, k.t ns a = some x → MT ns x a
 ts : ∀ {ns a x}, k.ts ns a = some x → MTs ns x a
 s : ∀ {ns a x}, k.s ns a = some x → MS ns x a
 ss : ∀ {ns a x}, k.ss ns a = some x → MSs ns x a
section
variable {ih : Tk} {ns : Nk} {a b c : Expr} {z : X}
theorem two_el (I : TkOk ih) {k : X → X → X} {P : Prop} (h : two ih ns a b k = some z) (f : ∀ x y, k x y = z → ME ns x a → ME ns y b → P) : P :=
 oB_el h fun x p h => oB_el h fun y q h => f x y (som h) (I.e p) (I.e q)
theorem thr_el (I : TkOk ih) {k : X → X → X → X} {P : Prop} (h : thr ih ns a b c k = some z) (f : ∀ x y w, k x y w = z → ME ns x a → ME ns y b → ME ns w c → P) : P :=
 oB_el h fun x p h => oB_el h fun y q h => oB_el h fun w r h => f x y w (som h) (I.e p) (I.e q) (I.e r)
theorem cmX_is (I : TkOk ih) {ops bs p} (h : cmX ih ns a ops bs = some z) : ME ns z (.Compare a ops bs p) := by
 refine hd1_el h ?_; clear h; intro op ops e90 h; subst e90
 refine hd1_el h ?_; clear h; intro b bs e90 h; subst e90
 cases ops with
 | nil =>
  refine em_el h ?_; clear h; intro e90 h; subst e90
  refine two_el I h ?_; clear h; intro x y e90 m1 m2; subst e90
  exact .cmp m1 m2
 | cons op' ops =>
  refine em_el h ?_; clear h; intro e90 h; subst e90
  refine hd1_el h ?_; clear h; intro d bs e90 h; subst e90
  refine em_el h ?_; clear h; intro e90 h; subst e90
  refine thr_el I h ?_; clear h; intro x y w e90 m1 m2 m3; subst e90
  exact .cmp2 m1 m2 m3
theorem dX_is {ks vs p} (h : dX ks vs = some z) : ME ns z (.Dict ks vs p) := by
 cases ks with
 | nil =>
  refine em_el h ?_; clear h; intro e90 h; subst e90
  obtain rfl := som h
  exact .dic
 | cons e ks =>
  refine oB_el h ?_; clear h; intro kn q1 h
  refine oB_el h ?_; clear h; intro vn q2 h
  refine gd_el h ?_; clear h; intro q3 h
  refine an3_el q3 ?_; intro a1 a2 a3
  refine an_el a3 ?_; intro a4 a5
  obtain rfl := som h
  refine .dics (ksts_is q1) (vsts_is q2) (Nat.eq_of_beq_eq_true a1) (fun q => ?_) (Nat.le_of_ble_eq_true a4) a5
  rw [q] at a2; exact nof a2
theorem sbX_is (I : TkOk ih) {p} (h : sbX ih ns a b = some z) : ME ns z (.Subscript a b p) := by
 have go : two ih ns a b .sub = some z → ME ns z (.Subscript a b p) := fun h => by
  refine two_el I h ?_; clear h; intro x y e90 m1 m2; subst e90
  exact .sub m1 m2
 cases b <;> try exact go h
 rename_i lo hi st q
 cases st with
 | some => exact nos h
 | none =>
  cases lo with
  | some b =>
   cases hi with
   | none => refine two_el I h ?_; clear h; intro x y e90 m1 m2; subst e90; exact .sll m1 m2
   | some d => refine thr_el I h ?_; clear h; intro x y w e90 m1 m2 m3; subst e90; exact .slb m1 m2 m3
  | none =>
   refine oB_el h ?_; clear h; intro b e90 h; subst e90
   refine two_el I h ?_; clear h; intro x y e90 m1 m2; subst e90
   exact .slh m1 m2
theorem tgX_is {f es l} {p : Pos} (hl : l = p.line) (h : tgX' ns f l es = some z) : ME ns z (.Call f es [] p) := by
 subst hl
 refine oB_el h ?_; clear h; intro r q1 h
 refine oB_el h ?_; clear h; intro d q2 h
 refine em_el h ?_; clear h; intro q3 h
 refine hd1_el h ?_; clear h; intro t es e90 h; subst e90
 refine em_el h ?_; clear h; intro e90 h; subst e90
 refine gd_el h ?_; clear h; intro q4 h
 refine gNm_el h ?_; clear h; intro f' pf q5 b1 b2 h
 refine gd_el h ?_; clear h; intro q6 h
 have e1 := dAtt_is q1
 have e2 := dCal_is q2
 obtain ⟨o, s, q⟩ := r
 obtain ⟨g, as, p1⟩ := d
 dsimp only at e1 e2 q3 q5
 subst q3 q5 e2 e1
 refine an_el q4 ?_; intro a1 a2
 obtain rfl : s = getS := eqS_is a1
 cases t <;> try exact nos h
 refine hd1_el h ?_; clear h; intro t1 l e90 h; subst e90
 refine hd1_el h ?_; clear h; intro t2 l e90 h; subst e90
 refine em_el h ?_; clear h; intro e90 h; subst e90
 refine lNm_el h ?_; clear h; intro x px e90 c1 c2 h; subst e90
 refine lNm_el h ?_; clear h; intro y py e90 d1 d2 h; subst e90
 obtain rfl := som h
 exact .tg b2 b1 (by rw [eqS_iff] at q6; show (_ != supS) = true; simpa [bne] using q6) c2 c1 d2 d1 rfl (Nat.eq_of_beq_eq_true a2)
theorem trE_ok (I : TkOk ih) {e x} (h : trE ih ns e = some x) : ME ns x e := by
 cases e <;> try exact nos h
 case Constant => exact cX_is h
 case Name =>
  refine gd_el h ?_; clear h; intro a h
  refine nmI_el h ?_; clear h; intro i e90 h; subst e90
  exact nX_is h (okB_is a)
 case BoolOp op es p =>
  refine oB_el h ?_; clear h; intro xs a h
  obtain rfl := som h
  cases op
  ·exact .and_ (I.es a)
  ·exact .or_ (I.es a)
 case BinOp => refine two_el I h ?_; clear h; intro x y e90 m1 m2; subst e90; exact .bin m1 m2
 case UnaryOp op a p =>
  refine oB_el h ?_; clear h; intro x q h
  cases op <;> try exact nos h
  ·obtain rfl := som h; exact .not_ (I.e q)
  ·obtain rfl := som h; exact .neg (I.e q)
 case IfExp => refine thr_el I h ?_; clear h; intro x y w e90 m1 m2 m3; subst e90; exact .ife m1 m2 m3
 case Compare => exact cmX_is I h
 case Tuple => refine oB_el h ?_; clear h; intro xs a h; obtain rfl := som h; exact .tup (I.es a)
 case List => refine oB_el h ?_; clear h; intro xs a h; obtain rfl := som h; exact .lst (I.es a)
 case Dict => exact dX_is h
 case Subscript => exact sbX_is I h
 case Attribute =>
  refine gd_el h ?_; clear h; intro a h
  refine nmI_el h ?_; clear h; intro i e90 h; subst e90
  refine oB_el h ?_; clear h; intro x q h
  obtain rfl := som h
  exact .att (I.e q) (plB_is a)
 case Call f es kw p =>
  refine em_el h ?_; clear h; intro e90 h; subst e90
  rcases alt_is h with h | h
  ·exact tgX_is rfl h
  ·rcases alt_is h with h | h
   ·refine oB_el h ?_; clear h; intro r q1 h
    refine gd_el h ?_; clear h; intro q2 h
    refine nmI_el h ?_; clear h; intro n q3 h
    refine oB_el h ?_; clear h; intro x q4 h
    refine oB_el h ?_; clear h; intro xs q5 h
    obtain rfl := som h
    refine an3_el q2 ?_; intro a1 a2 a3
    rw [dAtt_is q1, q3]
    exact .met (I.e q4) (plB_is a1) (I.es q5) (Nat.le_of_ble_eq_true a2) (Nat.eq_of_beq_eq_true a3)
   ·refine gd_el h ?_; clear h; intro q1 h
    refine oB_el h ?_; clear h; intro x q4 h
    refine oB_el h ?_; clear h; intro xs q5 h
    obtain rfl := som h
    exact .cal (I.e q4) (not_t q1) (I.es q5)
 case ListComp elt gs sc p =>
  refine hd1_el h ?_; clear h; intro g gs e90 h; subst e90
  refine em_el h ?_; clear h; intro e90 h; subst e90
  obtain ⟨t, iter, ifs, i⟩ := g
  refine oB_el h ?_; clear h; intro id q1 h
  refine em_el h ?_; clear h; intro q2 h
  refine gd_el h ?_; clear h; intro q3 h
  refine nmI_el h ?_; clear h; intro n e90 h; subst e90
  refine gd_el h ?_; clear h; intro q4 h
  refine oB_el h ?_; clear h; intro el q5 h
  refine oB_el h ?_; clear h; intro y q6 h
  obtain rfl := som h
  obtain ⟨px, e1⟩ := dNam_is q1
  dsimp only at e1 q2 q3
  subst e1 q2
  rw [(W.Z.eqB_iff _ _).mp q3]
  exact .lcp (elX_is q5) (I.e q6) (scB_is q4)
theorem trT_ok (I : TkOk ih) {e x} (h : trT ih ns e = some x) : MT ns x e := by
 cases e <;> try exact nos h
 case Name =>
  refine gd_el h ?_; clear h; intro a h
  refine nmI_el h ?_; clear h; intro i e90 h; subst e90
  obtain rfl := som h
  exact .loc (locB_is a)
 case Attribute a t p =>
  refine nmI_el (show nmI t (fun n => oB (ih.e ns a) fun x => some (X.att x n)) = some x from h) ?_; clear h; intro i e90 h; subst e90
  refine oB_el h ?_; clear h; intro x q h
  obtain rfl := som h
  exact .att (I.e q)
 case Subscript => refine two_el I h ?_; clear h; intro x y e90 m1 m2; subst e90; exact .sub m1 m2
 case Tuple => refine oB_el h ?_; clear h; intro xs a h; obtain rfl := som h; exact .tup (I.ts a)
theorem trS_ok (I : TkOk ih) {e x} (h : trS ih ns e = some x) : MS ns x e := by
 cases e <;> try exact nos h
 case Expr =>
  refine gd_el h ?_; clear h; intro a h
  refine oB_el h ?_; clear h; intro x q h
  obtain rfl := som h
  exact .ex (I.e q) (not_t a)
 case Assign =>
  refine hd1_el h ?_; clear h; intro t ts e90 h; subst e90
  refine em_el h ?_; clear h; intro e90 h; subst e90
  refine gd_el h ?_; clear h; intro a h
  refine oB_el h ?_; clear h; intro x q h
  refine oB_el h ?_; clear h; intro y q2 h
  obtain rfl := som h
  exact .asg (I.t q) (I.e q2) a
 case AugAssign =>
  refine lNm_el h ?_; clear h; intro n p e90 b1 b2 h; subst e90
  refine oB_el h ?_; clear h; intro x q h
  obtain rfl := som h
  exact .aug b2 b1 (I.e q)
 case If =>
  refine oB_el h ?_; clear h; intro x q h
  refine oB_el h ?_; clear h; intro y q2 h
  refine oB_el h ?_; clear h; intro z q3 h
  obtain rfl := som h
  exact .ift (I.e q) (I.ss q2) (I.ss q3)
 case For =>
  refine em_el h ?_; clear h; intro e90 h; subst e90
  refine oB_el h ?_; clear h; intro x q h
  refine oB_el h ?_; clear h; intro y q2 h
  refine oB_el h ?_; clear h; intro z q3 h
  obtain rfl := som h
  exact .for_ (I.t q) (I.e q2) (I.ss q3)
 case While =>
  refine em_el h ?_; clear h; intro e90 h; subst e90
  refine oB_el h ?_; clear h; intro x q h
  obtain rfl := som h
  exact .whl (I.e q)
 case Return o p =>
  cases o with
  | none => obtain rfl := som h; exact .ret0
  | some a =>
   refine oB_el h ?_; clear h; intro x q h
   obtain rfl := som h
   exact .ret (I.e q)
 case Raise => obtain rfl := som h; exact .rai
end
theorem tr_ok : ∀ n, TkOk (tr n)
 | 0 => ⟨(fun h => nos h), (fun h => nos h), (fun h => nos h), (fun h => nos h), (fun h => nos h), (fun h => nos h)⟩
 | n + 1 => by
  have I := tr_ok n
  refine ⟨fun h => trE_ok I h, fun {ns a x} h => ?_, fun h => trT_ok I h, fun {ns a x} h => ?_, fun h => trS_ok I h, fun {ns a x} h => ?_⟩
  ·cases a with
   | nil => obtain rfl := som h; exact .nil
   | cons a r =>
    refine oB_el (show oB ((tr n).e ns a) _ = some _ from h) ?_; clear h; intro x q h
    refine oB_el h ?_; clear h; intro y q2 h
    obtain rfl := som h
    exact .cons (I.e q) (I.es q2)
  ·cases a with
   | nil => obtain rfl := som h; exact .nil
   | cons a r =>
    refine oB_el (show oB ((tr n).t ns a) _ = some _ from h) ?_; clear h; intro x q h
    refine oB_el h ?_; clear h; intro y q2 h
    obtain rfl := som h
    exact .cons (I.t q) (I.ts q2)
  ·cases a with
   | nil => obtain rfl := som h; exact .nil
   | cons a r =>
    refine oB_el (show oB ((tr n).s ns a) _ = some _ from h) ?_; clear h; intro x q h
    refine oB_el h ?_; clear h; intro y q2 h
    obtain rfl := som h
    exact .cons (I.s q) (I.ss q2)
end
end Mine
set_option maxRecDepth 100000
set_option genInjectivity false
set_option genSizeOf false
namespace Mine
open PySem PySem.W PySem.Calls PyProof.Rows PySem.SeqAt PyProof.V PySem.Spec
section
theorem zip_snoc {α β : Type} : ∀ {xs : List α} {ys : List β} (x : α) (y : β), xs.length = ys.length → (xs ++ [x]).zip (ys ++ [y]) = xs.zip ys ++ [(x, y)] ∧ (xs ++ [x]).zip ys = xs.zip ys
 | [], [], _, _, _ => ⟨rfl, rfl⟩
 | [], _ :: _, _, _, h => nomatch h
 | _ :: _, [], _, _, h => nomatch h
 | a :: xs, b :: ys, x, y, h => by
  obtain ⟨h1, h2⟩ := zip_snoc (xs := xs) (ys := ys) x y (by simpa using h)
  exact ⟨by simp [h1], by simp [h2]⟩
theorem lookup_fresh {ps : List Str} {p : Str} (h : p ∉ ps) : ∀ (vs : List Value), (ps.zip vs).lookup p = none := by
 induction ps with
 | nil => intro vs; rfl
 | cons q ps ih =>
  intro vs
  cases vs with
  | nil => rfl
  | cons v vs =>
   rw [List.zip_cons_cons, List.lookup_cons]
   have : (p == q) = false := by
    cases e : p == q with
    | false => rfl
    | true => exact absurd (eq_of_beq e ▸ List.mem_cons_self) h
   rw [this]
   exact ih (fun hm => h (List.mem_cons_of_mem _ hm)) vs
theorem bind_one {s : Shared} {fd : FuncData} {vs : List Value} {ps : List Str} {p : Str} {d : Value} (hp : plainP fd.params) (he : fd.params.args.map (·.arg) = ps ++ [p]) (hn : (ps ++ [p]).Nodup) (hl : ps.length = vs.length)
  (hd : ∀ (M : Model) (A : Around) (E : Value → Shared → Prop) (Q : Option (Array Value) → Shared → Prop), Q (some #[d]) s → wpAny M A (seqItems? fd.defaults) Q E s) :
  BindsTo s fd ⟨vs, []⟩ ((ps ++ [p]).zip (vs ++ [d])) := by
 obtain ⟨z1, z2⟩ := zip_snoc p d hl
 have hnp : p ∉ ps := fun hm => by
  rw [List.nodup_append] at hn
  exact hn.2.2 p hm p (by simp) rfl
 have he' : pnames fd = ps ++ [p] := he
 have hlk := lookup_fresh hnp vs
 have ld : dfls fd (some #[d]) = [d] := by
  unfold dfls
  rw [he', show ((some #[d] : Option (Array Value)).getD #[]).toList = [d] from rfl, List.length_append, show ([d] : List Value).length - (ps.length + [p].length) = 0 from Nat.sub_eq_zero_of_le (Nat.le_add_left _ _)]
  rfl
 refine bind_gen (D := fun o => o = some #[d]) hp (by rw [he', List.length_append, hl]; exact Nat.le_add_right _ _) (fun M A E Q h => hd M A E Q (h _ rfl)) (fun o ho => ?_) (fun o ho => ?_)
 ·subst ho
  rw [ld, he', List.length_append, show ps.length + [p].length - [d].length = ps.length from Nat.add_sub_cancel _ _, List.take_left, z2]
  exact no_miss fun x hx => lookup_zip hl x hx
 ·subst ho
  rw [ld, he', List.length_append, show ps.length + [p].length - [d].length = ps.length from Nat.add_sub_cancel _ _, List.drop_left, z2]
  rw [show fillIn ([p].zip [d]) (ps.zip vs) = ps.zip vs ++ [(p, d)] from by
   show (if (List.lookup p (ps.zip vs)).isNone = true then _ else _) = _
   rw [hlk]; rfl]
  rw [← z1]
  exact filterMap_zip hn (by rw [List.length_append, List.length_append, hl]; rfl)
theorem bindP_nil : ∀ {ps : List Nat} {xs : List XV} {bs}, bindP ps xs [] = some bs → xs.length = ps.length ∧ bs = ps.zip xs
 | [], [], bs, h => by cases h; exact ⟨rfl, rfl⟩
 | [], _ :: _, _, h => nomatch h
 | p :: ps, [], bs, h => by simp [bindP] at h
 | p :: ps, x :: xs, bs, h => by
  rw [bindP] at h
  split at h
  ·rename_i r e
   cases h
   obtain ⟨a, b⟩ := bindP_nil e
   exact ⟨by simp [a], by simp [b]⟩
  ·cases h
theorem bindP_one {d : XV} : ∀ {ps : List Nat} {xs : List XV} {bs}, bindP ps xs [d] = some bs → (xs.length = ps.length ∧ bs = ps.zip xs) ∨ (xs.length + 1 = ps.length ∧ bs = ps.zip (xs ++ [d]))
 | [], [], bs, h => by cases h; exact .inl ⟨rfl, rfl⟩
 | [], _ :: _, _, h => nomatch h
 | p :: ps, [], bs, h => by
  cases ps with
  | nil => simp [bindP] at h; exact .inr ⟨rfl, by rw [← h]; rfl⟩
  | cons q ps => simp [bindP] at h
 | p :: ps, x :: xs, bs, h => by
  rw [bindP] at h
  split at h
  ·rename_i r e
   cases h
   rcases bindP_one e with ⟨a, b⟩ | ⟨a, b⟩
   ·exact .inl ⟨by simp [a], by simp [b]⟩
   ·exact .inr ⟨by simp [a], by simp [b]⟩
  ·cases h
theorem relM_zip {π : Pi} {g : Ow} : ∀ {ps : List Nat} {xs : List XV} {vs : List Value}, (ps.map nm).Nodup → RelL π g xs vs → ps.length = xs.length → RelM π g (ps.zip xs) fun x => ((ps.map nm).zip vs).reverse.lookup x := by
 intro ps xs vs hn r hl y x e
 have key : ∀ {ps : List Nat} {xs : List XV} {vs : List Value}, (ps.map nm).Nodup → RelL π g xs vs → ps.length = xs.length → ∀ y x, look y (ps.zip xs) = some x → ∃ v, (nm y, v) ∈ (ps.map nm).zip vs ∧ RelV π g x v := by
  intro ps
  induction ps with
  | nil => intro xs vs _ _ _ y x e; exact nomatch e
  | cons p ps ih =>
   intro xs vs hn r hl y x e
   cases r with
   | nil => simp at hl
   | @cons x' v' xs' vs' r1 r2 =>
    change br (Nat.beq p y) (some x') (look y (ps.zip xs')) = some x at e
    rw [BT.beq_eq] at e
    by_cases h : p = y
    ·subst h
     simp only [decide_true, br_t] at e
     cases e
     exact ⟨v', by simp, r1⟩
    ·simp only [h, decide_false, br_f] at e
     obtain ⟨v, h1, h2⟩ := ih (List.nodup_cons.mp hn).2 r2 (by simpa using hl) y x e
     exact ⟨v, by simp [h1], h2⟩
 obtain ⟨v, h1, h2⟩ := key hn r hl y x e
 refine ⟨v, ?_, h2⟩
 have nd : ∀ {l : List (Str × Value)}, (l.map (·.1)).Nodup → ∀ {k w}, (k, w) ∈ l → l.lookup k = some w := by
  intro l
  induction l with
  | nil => intro _ k w h; simp at h
  | cons q l ih =>
   intro hn k w h
   obtain ⟨a, b⟩ := q
   rw [List.map_cons] at hn
   obtain ⟨n1, n2⟩ := List.nodup_cons.mp hn
   rw [List.lookup_cons]
   rcases List.mem_cons.mp h with e | h
   ·injection e with e1 e2; subst e1 e2; simp
   ·have : (k == a) = false := by
     cases q : k == a with
     | false => rfl
     | true => exact absurd (List.mem_map.mpr ⟨(k, w), h, eq_of_beq q⟩) n1
    rw [this]; exact ih n2 h
 refine nd ?_ (List.mem_reverse.mpr h1)
 rw [List.map_reverse]
 have : ((ps.map nm).zip vs).map (·.1) = ps.map nm := List.map_fst_zip (by rw [List.length_map, hl, r.length]; exact Nat.le_refl _)
 rw [this]
 exact List.pairwise_reverse.mpr (hn.imp fun h => h.symm)
noncomputable def parB (ps : List Nat) (l : List Arg) : Bool := match ps with
 | [] => match l with
  | [] => true
  | _ => false
 | p :: r => match l with
  | a :: q => an (eqS a.arg (nm p)) (parB r q)
  | [] => false
theorem parB_is : ∀ {ps l}, parB ps l = true → l.map (·.arg) = ps.map nm
 | [], [], _ => rfl
 | [], _ :: _, h => nomatch h
 | _ :: _, [], h => nomatch h
 | p :: r, a :: q, h => by
  refine an_el (show an (eqS a.arg (nm p)) (parB r q) = true from h) ?_; intro h1 h2
  rw [List.map_cons, List.map_cons, eqS_is h1, parB_is h2]
noncomputable def nilB {α : Type} (l : List α) : Bool := match l with
 | [] => true
 | _ => false
theorem nilB_is {α : Type} {l : List α} (h : nilB l = true) : l = [] := by cases l <;> first | rfl | exact nomatch h
noncomputable def noneB {α : Type} (l : Option α) : Bool := match l with
 | none => true
 | _ => false
theorem noneB_is {α : Type} {l : Option α} (h : noneB l = true) : l = none := by cases l <;> first | rfl | exact nomatch h
noncomputable def plainB (p : Arguments) : Bool := an (an (nilB p.posonlyargs) (noneB p.vararg)) (an (nilB p.kwonlyargs) (noneB p.kwarg))
theorem plainB_is {p} (h : plainB p = true) : plainP p := by
 refine an_el h ?_; intro h1 h2
 refine an_el h1 ?_; intro a b
 refine an_el h2 ?_; intro c d
 exact ⟨nilB_is a, noneB_is b, nilB_is c, noneB_is d⟩
noncomputable def relC (x : XV) (v : Value) : Bool := match x with
 | .int (.k i) => match v with
  | .int j _ => W.Z.eqB i j
  | _ => false
 | .bytes (.k l) => match v with
  | .bytes b _ => bytesEq l b.toList
  | _ => false
 | _ => false
theorem relC_is {x v} (h : relC x v = true) (π : Pi) (g : Ow) : RelV π g x v := by
 unfold relC at h
 split at h
 ·split at h
  ·exact ⟨_, Nat.zero_le _, by rw [(W.Z.eqB_iff _ _).mp h]; rfl⟩
  ·cases h
 ·split at h
  ·rw [bytesEq_is] at h
   rename_i b t
   exact ⟨t, Nat.zero_le _, by show Value.bytes b t = Value.bytes ⟨_⟩ t; rw [show (XB.k _).at π = b.toList from eq_of_beq h]⟩
  ·cases h
 ·cases h
noncomputable def dfB (K : Frag) (v : Value) (ds : List XV) : Bool := match v with
 | .none => nilB ds
 | .ref a => match K.lookup a with
  | some ⟨_, _, .seq its _, _⟩ => match ds with
   | [] => true
   | [x] => match its.toList with
    | [u] => relC x u
    | _ => false
   | _ => false
  | _ => false
 | _ => false
noncomputable def lk (a : Nat) (K : Frag) : Option Obj := @List.rec (Nat × Obj) (fun _ => Option Obj) none (fun p _ ih => br (Nat.beq a p.1) (some p.2) ih) K
theorem lk_is (a : Nat) : ∀ K : Frag, lk a K = K.lookup a
 | [] => rfl
 | p :: K => by
  show br (Nat.beq a p.1) (some p.2) (lk a K) = _
  rw [lk_is a K]
  cases e : Nat.beq a p.1 with
  | true =>
   obtain rfl := Nat.eq_of_beq_eq_true e
   simp [List.lookup, br]
  | false =>
   have : (a == p.1) = false := by simpa using Nat.ne_of_beq_eq_false e
   simp [List.lookup, this, br]
noncomputable def at1 (K : Frag) (v : Value) : Frag := match v with
 | .ref c => match lk c K with
  | some o => [(c, o)]
  | none => []
 | _ => []
theorem at1_is (K : Frag) (c : Addr) : (at1 K (.ref c)).lookup c = K.lookup c := by
 show List.lookup c (match lk c K with | some o => [(c, o)] | none => []) = _
 rw [lk_is]
 cases K.lookup c with
 | none => rfl
 | some o => simp [List.lookup]
theorem code1 {K : Frag} {v : Value} {q : Str} (h : codeIn (at1 K v) v q = true) : codeIn K v q = true := by
 cases v with
 | ref c =>
  unfold codeIn at h ⊢
  dsimp only at h ⊢
  rw [at1_is] at h
  exact h
 | _ => exact Bool.noConfusion h
noncomputable def funB (K : Frag) (a : Addr) (fi : FI) : Bool := match lk a K with
 | some ⟨_, _, .func fd, _⟩ => match fd.body with
  | .stmts body => an (an (an3 true (funK fd.scope.kind) (an (!fd.scope.isCoroutine) (!fd.scope.isGenerator))) (an3 (namesAll noCF fd.scope.names) (an (Nat.beq fd.globals mainGlobals) (Nat.beq fd.builtins builtinsNs)) (codeIn (at1 K fd.code) fd.code fd.qualname)))
    (an3 (plainB fd.params) (an3 (parB fi.params fd.params.args) (apartN fi.params) (fi.params.all fun n => locB fd.scope.names (nm n))) (dfB K fd.defaults fi.dflts))
  | _ => false
 | _ => false
theorem funB_keep {K : Frag} {a : Addr} {fi : FI} (h : funB K a fi = true) : keepIn K (.ref a) = true := by
 unfold funB at h
 rw [lk_is] at h
 split at h
 ·rename_i e1
  unfold keepIn
  dsimp only
  rw [e1]
 ·exact nomatch h
noncomputable def bodyT (K : Frag) (a : Addr) : Option X := match lk a K with
 | some ⟨_, _, .func fd, _⟩ => match fd.body with
  | .stmts body => (tr 60).ss fd.scope.names body
  | _ => none
 | _ => none
theorem funB_is {K : Frag} {h₀ : Heap} {a : Addr} {fi : FI} (h : funB K a fi = true) (hm : bodyT K a = some fi.body) (X : K.In h₀) : FunOk K h₀ a fi := by
 unfold funB at h
 rw [lk_is] at h
 split at h
 ·rename_i oc od fd sl e1
  split at h
  ·rename_i body e2
   refine an_el h ?_; intro h1 h3
   refine an_el h1 ?_; clear h1; intro h1 h2
   refine an3_el h1 ?_; intro a1 a2 a3
   refine an_el a3 ?_; intro a4 a5
   refine an3_el h2 ?_; intro b1 b2 b3
   refine an_el b2 ?_; intro b4 b5
   refine an3_el h3 ?_; intro c1 c2 c3
   refine an3_el c2 ?_; intro c4 c5 c6
   have hpar := parB_is c4
   have hnd := apartN_nodup c5
   unfold bodyT at hm
   rw [lk_is, e1] at hm
   dsimp only at hm
   rw [e2] at hm
   refine ⟨_, fd, body, e1, rfl, e2, (tr_ok 60).ss hm, funK_is a2, by simpa using a4, by simpa using a5, fun x hx => (noCF_is (namesAll_is b1 x hx)).1, Nat.eq_of_beq_eq_true b4, Nat.eq_of_beq_eq_true b5, code1 b3, ?_⟩
   intro π g args bs vs s hb r hk
   have hloc : ∀ {ws : List Value}, ∀ x ∈ (fi.params.map nm).zip ws, fd.scope.names.lookup x.1 = some .local := fun {ws} x hx => by
    obtain ⟨q, hq⟩ := List.of_mem_zip (a := x.1) (b := x.2) hx
    obtain ⟨n, hn, e⟩ := List.mem_map.mp q
    rw [← e]
    exact locB_is (List.all_eq_true.mp c6 n hn)
   have full : args.length = fi.params.length → bs = fi.params.zip args → (∀ (M : Model) (A : Around) (E : Value → Shared → Prop) (Q : Option (Array Value) → Shared → Prop), (∀ o, Q o s) → wpAny M A (seqItems? fd.defaults) Q E s) →
     ∃ binds, BindsTo s fd ⟨vs, []⟩ binds ∧ (∀ x ∈ binds, fd.scope.names.lookup x.1 = some .local) ∧ RelM π g bs fun x => binds.reverse.lookup x := fun hl e hd => by
    refine ⟨(fi.params.map nm).zip vs, ?_, hloc, ?_⟩
    ·rw [← hpar]
     exact bind_full (plainB_is c1) (by rw [hpar]; exact hnd) (by rw [hpar, List.length_map, ← hl, r.length]) hd
    ·rw [e]; exact relM_zip hnd r hl.symm
   unfold dfB at c3
   split at c3
   ·rename_i ed
    have hds := nilB_is c3
    rw [hds] at hb
    obtain ⟨z1, z2⟩ := bindP_nil hb
    refine full z1 z2 fun M A E Q hq => ?_
    rw [ed]
    exact wpAny_bind (wpAny_of_eq (a := ()) rfl (wpAny_pure (hq _)))
   ·rename_i ad ed
    split at c3
    ·rename_i tc td its tn ts el
     have ho := hk _ _ (X _ _ el)
     have hd : ∀ (M : Model) (A : Around) (E : Value → Shared → Prop) (Q : Option (Array Value) → Shared → Prop), Q (some its) s → wpAny M A (seqItems? fd.defaults) Q E s := fun M A E Q hq => by
      rw [ed]
      exact wpAny_bind (wpAny_load ho (wpAny_pure hq))
     split at c3
     ·rename_i eds
      rw [eds] at hb
      obtain ⟨z1, z2⟩ := bindP_nil hb
      exact full z1 z2 fun M A E Q hq => hd M A E Q (hq _)
     ·rename_i x eds
      rw [eds] at hb
      split at c3
      ·rename_i u eu
       have hr := relC_is c3 π g
       have hits : its = #[u] := by rw [← Array.toArray_toList (xs := its), eu]
       rcases bindP_one hb with ⟨z1, z2⟩ | ⟨z1, z2⟩
       ·exact full z1 z2 fun M A E Q hq => hd M A E Q (hq _)
       ·obtain ⟨ps, p, ep⟩ : ∃ ps p, fi.params = ps ++ [p] := by
         have : fi.params ≠ [] := fun q => by rw [q] at z1; simp at z1
         exact ⟨fi.params.dropLast, fi.params.getLast this, (List.dropLast_concat_getLast this).symm⟩
        have hl : ps.length = vs.length := by
         rw [ep] at z1
         have := r.length
         simp at z1; omega
        refine ⟨(fi.params.map nm).zip (vs ++ [u]), ?_, hloc, ?_⟩
        ·rw [ep, List.map_append, List.map_cons, List.map_nil]
         rw [ep, List.map_append, List.map_cons, List.map_nil] at hpar hnd
         exact bind_one (plainB_is c1) hpar hnd (by rw [List.length_map]; exact hl) fun M A E Q hq => hd M A E Q (by rw [hits]; exact hq)
        ·rw [z2]
         exact relM_zip hnd (r.append (.cons hr .nil)) (by simp; omega)
      ·cases c3
     ·cases c3
    ·cases c3
   ·cases c3
  ·cases h
 ·cases h
end
end Mine
set_option maxRecDepth 100000
set_option genInjectivity false
set_option genSizeOf false
namespace Mine
open PySem PySem.W PySem.Calls PyProof.Rows PySem.SeqAt PyProof.V PySem.Spec
section
noncomputable def mapT {α β : Type} (f : Nat → α → β) (t : Tr α) : Tr β :=
 @Tr.rec α (fun _ => (Nat → α → β) → Tr β) (fun _ => .nil) (fun v _ _ il ir f => .node (v.map (f 0)) (il fun j => f (2 * j + 1)) (ir fun j => f (2 * j + 2))) t f
theorem mapT_get {α β : Type} : ∀ (t : Tr α) (f : Nat → α → β) (i : Nat), (mapT f t).get i = (t.get i).map (f i)
 | .nil, _, _ => rfl
 | .node v l r, f, i => by
  show (Tr.node (v.map (f 0)) (mapT (fun j => f (2 * j + 1)) l) (mapT (fun j => f (2 * j + 2)) r)).get i = _
  rw [Tr.get_node, Tr.get_node]
  by_cases h0 : i = 0
  ·subst h0; rfl
  ·rw [if_neg h0, if_neg h0]
   by_cases h1 : i % 2 = 1
   ·rw [if_pos h1, if_pos h1, mapT_get l, odd_back h1]
   ·rw [if_neg h1, if_neg h1, mapT_get r, even_back h0 h1]
theorem mapT_at {α β : Type} {f g : Nat → α → β} {t : Tr α} (h : mapT f t = mapT g t) {i : Nat} {x : α} (e : t.get i = some x) : f i x = g i x := by
 have z := congrArg (fun t => t.get i) h
 rw [mapT_get, mapT_get, e] at z
 exact som z
theorem look_mem {α : Type} {n : Nat} {x : α} : ∀ {l : List (Nat × α)}, look n l = some x → (n, x) ∈ l
 | p :: r, h => by
  change br (Nat.beq p.1 n) (some p.2) (look n r) = some x at h
  cases q : Nat.beq p.1 n with
  | true =>
   rw [q] at h
   cases h
   rw [← Nat.eq_of_beq_eq_true q]
   exact List.mem_cons_self
  | false => rw [q] at h; exact List.mem_cons_of_mem _ (look_mem h)
noncomputable def atB (K : Frag) (C : Addr) (p : Nat × Option CA) : Bool := match p.2 with
 | none => an (findIn K (.ref C) (nm p.1) == some none) (takerIn K C (nm p.1) == some none)
 | some (.fn f) => an3 (findIn K (.ref C) (nm p.1) == some (some (.ref f))) (isFn K (.ref f)) (keepIn K (.ref f))
 | some (.prop f) => match findIn K (.ref C) (nm p.1) with
  | some (some (.ref q)) => an3 (specialIn K (.ref q) "__get__" == some (some (.builtin "property.__get__"))) (takesIn K (.ref q) == some true) (match recIn K q "property" with
   | some (.ref f' :: _) => Nat.beq f' f
   | _ => false)
  | _ => false
noncomputable def clsB' (K : Frag) (C : Addr) (ci : CI) : Bool :=
 an (an (an3 (plainGet K C dbg) (hasDictIn K C) (findIn K (.ref C) "__setattr__" == some (some (.builtin "object.__setattr__")))) (an3 (plainOver K C) (makesIn K C) (keepIn K (.ref C))))
  (an3 (findIn K (.ref C) "__init__" == some (some (.ref ci.init))) (isFn K (.ref ci.init)) (ci.attrs.all (atB K C)))
theorem clsB_is {K : Frag} {C : Addr} {ci : CI} (h : clsB' K C ci = true) : ClsOk K C ci := by
 refine an_el h ?_; intro h1 h2
 refine an_el h1 ?_; clear h1; intro h1 h3
 refine an3_el h1 ?_; intro a1 a2 a3
 refine an3_el h3 ?_; intro b1 b2 b3
 refine an3_el h2 ?_; intro c1 c2 c3
 refine ⟨fun _ => a1, a2, eq_of_beq a3, b1, b2, b3, eq_of_beq c1, c2, fun n ca e => ?_⟩
 have := List.all_eq_true.mp c3 _ (look_mem e)
 unfold atB at this
 cases ca with
 | none =>
  refine an_el this ?_; intro q1 q2
  exact ⟨eq_of_beq q1, eq_of_beq q2⟩
 | some ca =>
  cases ca with
  | fn f =>
   refine an3_el this ?_; intro q1 q2 q3
   exact ⟨eq_of_beq q1, q2, q3⟩
  | prop f =>
   dsimp only at this
   split at this
   ·rename_i q e2
    refine an3_el this ?_; intro q1 q2 q3
    split at q3
    ·rename_i f' rest e3
     have := Nat.eq_of_beq_eq_true q3
     subst this
     exact ⟨q, rest, e2, eq_of_beq q1, eq_of_beq q2, e3⟩
    ·cases q3
   ·cases this
noncomputable def strX (x : XV) : Option Nat := match x with
 | .str n => some n
 | _ => none
theorem strX_is {x n} (h : strX x = some n) : x = .str n := by
 cases x <;> try exact nos h
 rw [som h]
noncomputable def sst (ns : Nk) (e : Expr) : Option Nat := alt (eStr e) (gNm ns e fun x => oB (tab.globs.get x) strX)
theorem sst_is {ns n e} (h : sst ns e = some n) : SStr ns n e := by
 rcases alt_is h with h | h
 ·obtain ⟨k, p, rfl⟩ := eStr_is h; exact .k
 ·refine gNm_el h ?_; clear h; intro x p e90 b1 b2 hk; subst e90
  refine oB_el hk ?_; clear hk; intro v q h
  rw [strX_is h] at q
  exact .g b2 b1 q
noncomputable def tup2e (e : Expr) {β : Type} (k : Expr → Expr → Option β) : Option β := match e with
 | .Tuple l _ _ => hd1 l fun a l => hd1 l fun b l => em l (k a b)
 | _ => none
theorem tup2e_is {e : Expr} {β : Type} {k : Expr → Expr → Option β} {y : β} (h : tup2e e k = some y) : ∃ a b kk p, e = .Tuple [a, b] kk p ∧ k a b = some y := by
 cases e <;> try exact nos h
 refine hd1_el h ?_; clear h; intro a l e90 h; subst e90
 refine hd1_el h ?_; clear h; intro b l e90 h; subst e90
 refine em_el h ?_; clear h; intro e90 h; subst e90
 exact ⟨a, b, _, _, rfl, h⟩
noncomputable def sps1 (ns : Nk) (k : Option Expr) (ih : List Expr → Option (List Tri)) (vs : List Expr) : Option (List Tri) := oB k fun k => tup2e k fun e1 e2 => hd1 vs fun e3 vs => oB (sst ns e1) fun a => oB (sst ns e2) fun b => oB (sst ns e3) fun v => oB (ih vs) fun r => some (((a, b), v) :: r)
noncomputable def sps (ns : Nk) (ks : List (Option Expr)) : List Expr → Option (List Tri) := @List.rec (Option Expr) (fun _ => List Expr → Option (List Tri)) (fun vs => em vs (some [])) (fun k _ ih vs => sps1 ns k ih vs) ks
theorem sps_is {ns} : ∀ {ks vs es}, sps ns ks vs = some es → SPs ns es ks vs
 | [], vs, es, h => by
  refine em_el h ?_; clear h; intro e90 h; subst e90
  obtain rfl := som h
  exact .nil
 | k :: ks, vs, es, h => by
  refine oB_el (show oB k _ = some es from h) ?_; clear h; intro k e90 h; subst e90
  replace h := tup2e_is h; obtain ⟨e1, e2, kk, p, rfl, h⟩ := h
  refine hd1_el h ?_; clear h; intro e3 vs e90 h; subst e90
  refine oB_el h ?_; clear h; intro a q1 h
  refine oB_el h ?_; clear h; intro b q2 h
  refine oB_el h ?_; clear h; intro v q3 h
  refine oB_el h ?_; clear h; intro r q4 h
  obtain rfl := som h
  exact .cons (sst_is q1) (sst_is q2) (sst_is q3) (sps_is q4)
noncomputable def noneV (v : Value) : Bool := match v with
 | .none => true
 | _ => false
theorem noneV_is {v : Value} (h : noneV v = true) : v = .none := by cases v <;> first | rfl | exact nomatch h
noncomputable def lenB (es : List Tri) : Bool := an (Nat.blt 0 es.length) (br (Nat.ble es.length 15) true (Nat.beq es.length 18))
noncomputable def dFun (d : Data) : Option FuncData := match d with
 | .func fd => some fd
 | _ => none
theorem dFun_is {d fd} (h : dFun d = some fd) : d = .func fd := by
 cases d <;> try exact nos h
 rw [som h]
noncomputable def dSts (b : FuncBody) : Option (List Stmt) := match b with
 | .stmts l => some l
 | _ => none
theorem dSts_is {b l} (h : dSts b = some l) : b = .stmts l := by
 cases b <;> try exact nos h
 rw [som h]
noncomputable def dRet (st : Stmt) : Option Expr := match st with
 | .Return o _ => o
 | _ => none
theorem dRet_is {st e} (h : dRet st = some e) : ∃ p, st = .Return (some e) p := by
 cases st <;> try exact nos h
 rename_i o p
 obtain rfl : o = some e := h
 exact ⟨_, rfl⟩
noncomputable def dDic (e : Expr) : Option (List (Option Expr) × List Expr) := match e with
 | .Dict ks vs _ => some (ks, vs)
 | _ => none
theorem dDic_is {e r} (h : dDic e = some r) : ∃ p, e = .Dict r.1 r.2 p := by
 cases e <;> try exact nos h
 rw [← som h]; exact ⟨_, rfl⟩
noncomputable def tabG (K : Frag) (a : Addr) (es : List Tri) (fd : FuncData) : Bool := an (an (an (funK fd.scope.kind) (an (!fd.scope.isCoroutine) (!fd.scope.isGenerator))) (an3 (namesAll noCF fd.scope.names) (an (Nat.beq fd.globals mainGlobals) (Nat.beq fd.builtins builtinsNs)) (codeIn K fd.code fd.qualname)))
    (an3 (an (plainB fd.params) (nilB fd.params.args)) (an (noneV fd.defaults) (keepIn K (.ref a))) (an (apartT es) (lenB es)))
noncomputable def tabR (K : Frag) (a : Addr) (es : List Tri) : Option (List Tri) := oB (K.lookup a) fun o => oB (dFun o.data) fun fd => gd (tabG K a es fd) (oB (dSts fd.body) fun l => hd1 l fun st l => em l (oB (dRet st) fun e => oB (dDic e) fun r => sps fd.scope.names r.1 r.2))
theorem tabB_is {K : Frag} {a : Addr} {es : List Tri} (h : tabR K a es = some es) : TabFn K a es := by
 refine oB_el h ?_; clear h; intro o e1 h
 refine oB_el h ?_; clear h; intro fd e2 h
 refine gd_el h ?_; clear h; intro hb h
 refine oB_el h ?_; clear h; intro l e3 h
 refine hd1_el h ?_; clear h; intro st l e90 h; subst e90
 refine em_el h ?_; clear h; intro e90 h; subst e90
 refine oB_el h ?_; clear h; intro e e4 h
 refine oB_el h ?_; clear h; intro r e5 h
 obtain ⟨p', rfl⟩ := dRet_is e4
 obtain ⟨p, rfl⟩ := dDic_is e5
 refine an_el hb ?_; intro h1 h3
 refine an_el h1 ?_; clear h1; intro h1 h2
 refine an_el h1 ?_; intro a2 a3
 refine an_el a3 ?_; intro a4 a5
 refine an3_el h2 ?_; intro b1 b2 b3
 refine an_el b2 ?_; intro b4 b5
 refine an3_el h3 ?_; intro c1 c2 c3
 refine an_el c1 ?_; intro c4 c5
 refine an_el c2 ?_; intro c6 c7
 refine an_el c3 ?_; intro c8 c9
 refine an_el (show an (Nat.blt 0 es.length) _ = true from c9) ?_; intro d1 d2
 have hargs := nilB_is c5
 refine ⟨o, fd, r.1, r.2, p, p', e1, dFun_is e2, dSts_is e3, sps_is h, funK_is a2, not_t a4, not_t a5, fun x hx => (noCF_is (namesAll_is b1 x hx)).1, Nat.eq_of_beq_eq_true b4, Nat.eq_of_beq_eq_true b5, b3, c8, fun q => ?_, ?_, c7, fun s => ?_⟩
 ·rw [q] at d1; exact nof d1
 ·cases q : Nat.ble es.length 15 with
  | true => exact .inl (Nat.le_of_ble_eq_true q)
  | false => rw [q] at d2; exact .inr (Nat.eq_of_beq_eq_true d2)
 ·have z := bind_full (s := s) (fd := fd) (vs := []) (plainB_is c4) (by rw [hargs]; exact List.nodup_nil) (by rw [hargs]; rfl) fun M A E Q hq => by
   rw [noneV_is c6]
   exact wpAny_bind (wpAny_of_eq (a := ()) rfl (wpAny_pure (hq _)))
  rw [hargs] at z
  exact z
noncomputable def lookE (s : Str) (l : List DictEntry) : Option Value := @List.rec DictEntry (fun _ => Option Value) none (fun e _ ih => match e.key with
 | .str n _ => br (eqS n s) (some e.val) ih
 | _ => ih) l
noncomputable def globB (es : List DictEntry) (n : Nat) (x : XV) : Bool := match x with
 | .sta a => match lookE (nm n) es with
  | some (.ref b) => Nat.beq b a
  | _ => false
 | .int (.k i) => match lookE (nm n) es with
  | some (.int j _) => W.Z.eqB j i
  | _ => false
 | .str k => match lookE (nm n) es with
  | some (.str s _) => eqS s (nm k)
  | _ => false
 | .bi k => an (noneB (lookE (nm n) es)) (bootBuiltins (nm n) == some (.builtin (biN k)))
 | .ty k => an (noneB (lookE (nm n) es)) (bootBuiltins (nm n) == some (.type (tyN k)))
 | _ => false
theorem lookE_is (s : Str) : ∀ {l : List DictEntry}, StrKeys ⟨l⟩ → lookE s l = nsFind ⟨l⟩ s
 | [], _ => rfl
 | e :: r, h => by
  obtain ⟨n, t, hk⟩ := h e (by simp)
  have ih := lookE_is s (l := r) fun x hx => h x (by simp at hx ⊢; exact .inr hx)
  show (match e.key with
   | .str n _ => br (eqS n s) (some e.val) (lookE s r)
   | _ => lookE s r) = nsFind ⟨e :: r⟩ s
  rw [hk]
  dsimp only
  rw [ih]
  unfold nsFind findBy
  rw [List.find?_toArray, List.find?_toArray, List.find?_cons, hk]
  show br (eqS n s) (some e.val) _ = Option.map (·.val) (match (n == s) with
   | true => some e
   | false => List.find? _ r)
  rw [eqS_iff]
  cases n == s <;> rfl
noncomputable def isBi (x : XV) : Bool := match x with
 | .bi _ => true
 | .ty _ => true
 | _ => false
theorem bi_ok {n : Nat} {x : Option Value} {v : Value} (h : an (noneB x) (bootBuiltins (nm n) == some v) = true) : x = none ∧ bootBuiltins (nm n) = some v := by
 refine an_el h ?_; intro a b
 exact ⟨noneB_is a, eq_of_beq b⟩
theorem globB_is {es : List DictEntry} {n : Nat} {x : XV} (h : globB es n x = true) : ∃ v, (lookE (nm n) es = some v ∨ (lookE (nm n) es = none ∧ bootBuiltins (nm n) = some v ∧ isBi x = true)) ∧ ∀ π g, RelV π g x v := by
 unfold globB at h
 split at h
 ·split at h
  ·rename_i b e
   have := Nat.eq_of_beq_eq_true h
   subst this
   exact ⟨_, .inl e, fun _ _ => rfl⟩
  ·cases h
 ·split at h
  ·rename_i j t e
   refine ⟨_, .inl e, fun _ _ => ⟨t, Nat.zero_le _, ?_⟩⟩
   rw [(W.Z.eqB_iff _ _).mp h]; rfl
  ·cases h
 ·split at h
  ·rename_i s t e
   exact ⟨_, .inl e, fun _ _ => ⟨t, Nat.zero_le _, by rw [eqS_is h]⟩⟩
  ·cases h
 ·obtain ⟨a, b⟩ := bi_ok h
  exact ⟨_, .inr ⟨a, b, rfl⟩, fun _ _ => rfl⟩
 ·obtain ⟨a, b⟩ := bi_ok h
  exact ⟨_, .inr ⟨a, b, rfl⟩, fun _ _ => rfl⟩
 ·cases h
end
end Mine
set_option maxRecDepth 1000000
set_option maxHeartbeats 0
namespace Mine
open PySem PySem.W PySem.Calls PyProof.Rows
section
noncomputable def HK (P : Params) : Frag := [(27, o27 P), (28, o28 P), (34, o34 P), (35, o35 P), (41, o41 P), (42, o42 P), (55, o55 P), (56, o56 P), (115, o115 P), (121, o121 P), (122, o122 P), (128, o128 P), (129, o129 P), (135, o135 P), (136, o136 P), (142, o142 P), (143, o143 P), (145, o145 P), (146, o146 P), (170, o170 P), (171, o171 P), (177, o177 P), (178, o178 P), (184, o184 P), (185, o185 P), (191, o191 P), (192, o192 P), (198, o198 P), (199, o199 P), (212, o212 P), (213, o213 P), (241, o241 P), (242, o242 P), (251, o251 P), (252, o252 P), (269, o269 P), (270, o270 P), (276, o276 P), (277, o277 P), (290, o290 P), (291, o291 P), (297, o297 P), (298, o298 P), (304, o304 P), (305, o305 P), (311, o311 P), (312, o312 P), (325, o325 P), (326, o326 P), (342, o342 P), (343, o343 P), (360, o360 P), (361, o361 P), (381, o381 P), (382, o382 P), (388, o388 P), (389, o389 P), (402, o402 P), (403, o403 P), (409, o409 P), (410, o410 P), (416, o416 P), (417, o417 P), (419, o419 P), (420, o420 P), (437, o437 P), (438, o438 P), (458, o458 P), (459, o459 P), (465, o465 P), (466, o466 P), (472, o472 P), (473, o473 P), (475, o475 P), (476, o476 P), (493, o493 P), (494, o494 P), (500, o500 P), (501, o501 P), (507, o507 P), (508, o508 P), (514, o514 P), (515, o515 P), (521, o521 P), (522, o522 P), (528, o528 P), (529, o529 P), (531, o531 P), (532, o532 P), (549, o549 P), (550, o550 P), (556, o556 P), (557, o557 P), (563, o563 P), (564, o564 P), (570, o570 P), (571, o571 P), (573, o573 P), (574, o574 P), (591, o591 P), (592, o592 P), (598, o598 P), (599, o599 P), (600, o600 P), (606, o606 P), (607, o607 P), (613, o613 P), (614, o614 P), (620, o620 P), (621, o621 P), (627, o627 P), (628, o628 P), (641, o641 P), (642, o642 P), (648, o648 P), (649, o649 P), (655, o655 P), (656, o656 P), (662, o662 P), (663, o663 P), (676, o676 P), (677, o677 P), (683, o683 P), (684, o684 P), (692, o692 P), (698, o698 P), (699, o699 P), (712, o712 P), (713, o713 P), (719, o719 P), (720, o720 P), (726, o726 P), (727, o727 P), (740, o740 P), (741, o741 P), (747, o747 P), (748, o748 P), (761, o761 P), (762, o762 P), (764, o764 P), (765, o765 P), (777, o777 P), (781, o781 P), (782, o782 P), (788, o788 P), (789, o789 P), (795, o795 P), (796, o796 P), (802, o802 P), (803, o803 P), (809, o809 P), (810, o810 P), (831, o831 P), (832, o832 P), (849, o849 P), (850, o850 P), (852, o852 P), (853, o853 P), (863, o863 P), (864, o864 P), (877, o877 P), (878, o878 P), (884, o884 P), (885, o885 P), (886, o886 P), (892, o892 P), (893, o893 P), (895, o895 P), (896, o896 P), (906, o906 P), (907, o907 P), (913, o913 P), (914, o914 P), (920, o920 P), (921, o921 P), (927, o927 P), (928, o928 P), (941, o941 P), (942, o942 P), (948, o948 P), (949, o949 P), (955, o955 P), (956, o956 P), (962, o962 P), (963, o963 P), (969, o969 P), (970, o970 P), (976, o976 P), (977, o977 P), (990, o990 P), (991, o991 P), (997, o997 P), (998, o998 P), (1004, o1004 P), (1005, o1005 P), (1011, o1011 P), (1012, o1012 P), (1018, o1018 P), (1019, o1019 P), (1025, o1025 P), (1026, o1026 P), (1032, o1032 P), (1033, o1033 P), (1039, o1039 P), (1040, o1040 P), (1053, o1053 P), (1054, o1054 P), (1131, o1131 P), (1132, o1132 P), (1144, o1144 P), (1150, o1150 P), (1151, o1151 P), (1157, o1157 P), (1158, o1158 P), (1164, o1164 P), (1165, o1165 P), (1171, o1171 P), (1172, o1172 P), (1178, o1178 P), (1179, o1179 P), (1265, o1265 P), (1266, o1266 P), (1276, o1276 P), (1277, o1277 P), (1283, o1283 P), (1284, o1284 P), (1290, o1290 P), (1291, o1291 P), (1297, o1297 P), (1298, o1298 P), (1304, o1304 P), (1305, o1305 P), (1311, o1311 P), (1312, o1312 P), (1318, o1318 P), (1319, o1319 P), (1323, o1323 P), (1324, o1324 P), (1330, o1330 P), (1331, o1331 P), (1335, o1335 P), (1336, o1336 P), (1342, o1342 P), (1343, o1343 P)]
noncomputable def scan (l : List Obj) : Nat → Frag → List Obj := @List.rec Obj (fun _ => Nat → Frag → List Obj) (fun _ _ => []) (fun o _ ih i K => @List.rec (Nat × Obj) (fun _ => List Obj) [] (fun p r _ => br (Nat.beq i p.1) (o :: ih (Nat.succ i) r) (ih (Nat.succ i) K)) K) l
theorem scan_ok : ∀ (l : List Obj) (i : Nat) (K : Frag), scan l i K = K.map (·.2) → ∀ p ∈ K, ∃ j, p.1 = i + j ∧ l[j]? = some p.2
 | [], i, [], _ => fun p h => nomatch h
 | [], i, p :: K, h => nomatch h
 | o :: l, i, [], _ => fun p h => nomatch h
 | o :: l, i, p :: K, h => by
  change br (Nat.beq i p.1) (o :: scan l (Nat.succ i) K) (scan l (Nat.succ i) (p :: K)) = p.2 :: K.map (·.2) at h
  cases e : Nat.beq i p.1 with
  | true =>
   rw [e] at h
   obtain ⟨rfl, h'⟩ := List.cons.inj (show o :: scan l (Nat.succ i) K = p.2 :: K.map (·.2) from h)
   intro q hq
   rcases List.mem_cons.mp hq with rfl | hq
   ·exact ⟨0, (Nat.eq_of_beq_eq_true e).symm, rfl⟩
   ·obtain ⟨j, h1, h2⟩ := scan_ok l _ K h' q hq
    exact ⟨j + 1, h1.trans (Nat.succ_add i j), h2⟩
  | false =>
   rw [e] at h
   intro q hq
   obtain ⟨j, h1, h2⟩ := scan_ok l _ (p :: K) h q hq
   exact ⟨j + 1, h1.trans (Nat.succ_add i j), h2⟩
theorem HK_scan (P : Params) : scan (hl P) 0 (HK P) = (HK P).map (·.2) := by kernel_rfl
noncomputable def alive (o : Obj) : Bool := match o.data with
 | .freed => false
 | _ => true
theorem get_of {h : Heap} {a : Addr} {o : Obj} (e : h.objs[a]? = some o) (f : alive o = true) : h.get? a = some o := by
 unfold Heap.get?
 rw [e]
 obtain ⟨c, d, x, y⟩ := o
 cases x <;> first | rfl | exact Bool.noConfusion f
theorem HK_alive (P : Params) : (HK P).all (fun p => alive p.2) = true := by kernel_rfl
theorem HK_at (P : Params) : ((HK P).map (·.1)).map (H1 P).get? = (HK P).map (fun p => some p.2) := by
 rw [List.map_map]
 refine List.map_congr_left fun p hp => ?_
 obtain ⟨j, h1, h2⟩ := scan_ok _ _ _ (HK_scan P) p hp
 obtain rfl : p.1 = j := h1.trans (Nat.zero_add j)
 exact get_of (h := H1 P) (List.getElem?_toArray.trans h2) (List.all_eq_true.mp (HK_alive P) p hp)
theorem HK_in {w : World} {h : Heap} (Y : KeptL w h) : (HK w.params).In h := fun a o e => Y _ _ (Frag.in_of rfl (HK_at w.params) a o e)
theorem HK_tr (P : Params) : mapT (fun a _ => bodyT (HK P) a) tab.funs = mapT (fun _ fi => some fi.body) tab.funs := by kernel_rfl
theorem HK_fn (P : Params) : mapT (fun a fi => funB (HK P) a fi) tab.funs = mapT (fun _ _ => true) tab.funs := by kernel_rfl
theorem HK_cls (P : Params) : mapT (fun a ci => clsB' (HK P) a ci) tab.clss = mapT (fun _ _ => true) tab.clss := by kernel_rfl
theorem HK_tab (P : Params) : mapT (fun a es => tabR (HK P) a es) tab.tabs = mapT (fun _ es => some es) tab.tabs := by kernel_rfl
theorem HK_keep (P : Params) {a : Nat} {fi : FI} (e : tab.funs.get a = some fi) : keepIn (HK P) (.ref a) = true := funB_keep (mapT_at (HK_fn P) e)
end
end Mine
set_option maxRecDepth 1000000
set_option maxHeartbeats 0
set_option genInjectivity false
set_option genSizeOf false
namespace Mine
open PySem PySem.W PySem.Calls PyProof.Rows
section
noncomputable def esG (P : Params) : List DictEntry := match (o3 P).data with
 | .dict es _ => es.toList
 | _ => []
noncomputable def notName (n : Nat) : Bool := !eqS (nm n) (Str.ofString "__name__")
theorem HK_glob (P : Params) : mapT (fun n x => an (globB (esG P) n x) (br (isBi x) (notName n) true)) tab.globs = mapT (fun _ _ => true) tab.globs := by kernel_rfl
theorem words : Words := ⟨by kernel_rfl, by kernel_rfl, by kernel_rfl⟩
theorem base_of {c : Cx} (Y : KeptL c.w c.h₀) (l : c.h₀.NoLimit) : Base c := ⟨⟨_, Y sysModules (o1 c.w.params) (by kernel_rfl)⟩, l⟩
theorem stat_of {c : Cx} (Y : KeptL c.w c.h₀) : Stat c (HK c.w.params) :=
 ⟨HK_in Y, fun C ci e => clsB_is (mapT_at (HK_cls _) e), fun a fi e => HK_keep _ e⟩
theorem facts (P : Params) : Facts (HK P) :=
 ⟨words, fun {c} _ _ S => ⟨fun a fi e => funB_is (mapT_at (HK_fn P) e) (mapT_at (HK_tr P) e) S.kin⟩, ⟨fun a es e => tabB_is (mapT_at (HK_tab P) e)⟩⟩
theorem globs_of {c : Cx} {mg mb : Str → Option Value} (Y : KeptL c.w c.h₀) (hg : c.h₀.Ns mainGlobals mg) (hb : c.h₀.Ns builtinsNs mb) (hbb : ∀ x : Str, x ≠ "__name__" → mb x = bootBuiltins x) : Globs c := by
 refine ⟨mg, mb, hg, hb, fun n x e => ?_⟩
 obtain ⟨h1, h2⟩ := an_true (mapT_at (HK_glob c.w.params) e)
 obtain ⟨v, hv, hr⟩ := globB_is h1
 obtain ⟨o, es, ep, ho, hd, hs, hf⟩ := hg
 have ho' := Y mainGlobals (o3 c.w.params) (by kernel_rfl)
 rw [ho] at ho'
 cases ho'
 have he : esG c.w.params = es.toList := by unfold esG; rw [hd]
 have hl : lookE (nm n) (esG c.w.params) = mg (nm n) := by
  rw [he, lookE_is _ (by simpa using hs), ← hf]
 refine ⟨v, ?_, hr⟩
 rcases hv with hv | ⟨hv, hb2, hbi⟩
 ·exact .inl (hl ▸ hv)
 ·refine .inr ⟨hl ▸ hv, ?_⟩
  rw [hbb _ ?_]; exact hb2
  intro q
  rw [hbi] at h2
  have h2 : notName n = true := h2
  unfold notName at h2
  rw [q] at h2
  exact absurd h2 (by decide +kernel)
end
end Mine
set_option maxRecDepth 100000
set_option genInjectivity false
set_option genSizeOf false
namespace Mine
open PySem PySem.W PySem.Calls PyProof.Rows
section
theorem ba_mro : mroOf (.type "bytearray") = pure [.type "bytearray", .type "object"] := by rw [mroOf_type]; kernel_rfl
theorem ba_lookup_new : typeLookup (.type "bytearray") "__new__" = pure (some (.builtin "bytearray.__new__")) := by rw [typeLookup_type, builtinLookup_eq_fast]; kernel_rfl
theorem ba_made : Bind.madeBy (.type "bytearray") = pure (some "bytearray.__new__") := madeBy_type ba_mro ba_lookup_new (by decide +kernel)
theorem ba_sub : isSubtype (.type "bytearray") (.type "bytearray") = pure true := by rw [isSubtype_type]; kernel_rfl
theorem ba_init : Slot "bytearray" "__init__" "bytearray.__init__" :=
 .of (owner := "bytearray") (n := "__init__") (by rw [typeLookup_type, builtinLookup_eq_fast]; kernel_rfl) (by decide +kernel) (by decide +kernel) (by decide +kernel)
  (by first | exact .inl (by decide +kernel) | exact .inr (by decide +kernel)) (by rw [isSubtype_type]; kernel_rfl)
theorem ba_typeCall : checkTypeCall "bytearray" ⟨[], []⟩ = pure () := by kernel_rfl
theorem ba_newCall : checkBuiltinCall "bytearray.__new__" ⟨[.type "bytearray"], []⟩ = pure () := by kernel_rfl
theorem ba_entry_new : entryFor table "bytearray.__new__" = some Builtin.«list.__new__» := entryFor_alias (id' := "list.__new__") (by kernel_rfl) (by decide +kernel) (by decide +kernel) (by kernel_rfl)
theorem ba_entry_init : entryFor table "bytearray.__init__" = some Builtin.«bytearray.__init__» := by first | exact entryFor_of_fast (by kernel_rfl) | exact entryFor_of_tree (by kernel_rfl)
theorem ba_plain_new : plainId "bytearray.__new__" = true := by decide +kernel
theorem ba_plain_init : plainId "bytearray.__init__" = true := by decide +kernel
set_option maxRecDepth 1000000 in
set_option maxHeartbeats 4000000 in
theorem ba_owner : ("bytearray.__new__".splitOn ".__new__").headD "" = "bytearray" := by simp +decide [String.splitOn, String.splitOnAux]
theorem ba_canCreate : ((Manifest.find? "bytearray").bind (·.mro.findSome? fun t => (Manifest.find? t).bind fun b => if b.noNew then some true else if b.attrs.any (·.1 == "__new__") then some false else none)).getD false = false := by decide +kernel
theorem ba_bind : Builtin.Bytes.bindOptional "bytearray.__init__" "bytearray" ["source", "encoding", "errors"] [] [] = pure [none, none, none] := by kernel_rfl
theorem ba_release : typeLookup (.type "bytearray") "__release_buffer__" = pure (some (.builtin "bytearray.__release_buffer__")) := by rw [typeLookup_type, builtinLookup_eq_fast]; kernel_rfl
section
variable {w : World} {A : Around} {E : Value → Shared → Prop} {s : Shared} {R : Result → Shared → Prop} {prog : Program}
theorem code_ba_new {Q₁ : Value → Shared → Prop} (h : Q₁ (.ref s.heap.objs.size) { s with heap := s.heap.push barrO }) :
  codeAny (model prog w) A (.call (.builtin "bytearray.__new__") ⟨[.type "bytearray"], []⟩) (wants Q₁ E) s := by
 refine codeAny_of_tree ?_
 show wpAny _ A.in1 (do checkBuiltinCall "bytearray.__new__" ⟨[.type "bytearray"], []⟩; again (.builtin "bytearray.__new__" ⟨[.type "bytearray"], []⟩)) _ _ s
 refine wpAny_bind (wpAny_of_eq ba_newCall (wpAny_pure ⟨plainId_quiet ba_plain_new _, codeAny_builtin_stack ba_entry_new rfl fun p st => ?_⟩))
 rw [Around.under_plainId ba_plain_new _]
 have hsub := ba_sub
 have hown := ba_owner
 obtain ⟨hp, g, d, tk, os⟩ := s
 simp only [hown]
 wp_walk
 exact h
end
end
end Mine
set_option maxRecDepth 100000
set_option genInjectivity false
set_option genSizeOf false
namespace Mine
open PySem PySem.W PySem.Calls PyProof.Rows
section
section
variable {w : World} {A : Around} {E : Value → Shared → Prop} {s : Shared} {R : Result → Shared → Prop} {prog : Program} {M : Model}
theorem guardsOf_none {l : List (Code × Pos)} (h : guardsOf l = []) : ∀ x ∈ l, x.1.isGuard = false := by
 intro x hx
 cases q : x.1.isGuard with
 | false => rfl
 | true =>
  have : x.1 ∈ guardsOf l := List.mem_filter.mpr ⟨List.mem_map.mpr ⟨x, hx, rfl⟩, q⟩
  rw [h] at this; simp at this
theorem wpN_exported {self : Value} {Q : Bool → Shared → Prop} (hg : A.guards = some []) (h : Q false s) : wpN M A (Builtin.Bytes.exported self) Q E s := fun Γ p hΓ hn => by
 have e : guardsOf ((Γ.code, p) :: Γ.below) = [] := by rw [guardsOf_cons]; exact hΓ.2.2.2.1 _ hg
 have hd : ∀ x ∈ ((Γ.code, p) :: Γ.below), dec x.1 = false := fun x hx => by
  rcases List.mem_cons.mp hx with rfl | hx
  ·exact hn.1
  ·exact hn.2 x hx
 unfold Builtin.Bytes.exported
 show Q (List.any ((Γ.code, p) :: Γ.below) _) s
 rw [show List.any ((Γ.code, p) :: Γ.below) _ = false from ?_]
 ·exact h
 ·rw [List.any_eq_false]
  intro x hx
  have h1 := guardsOf_none e x hx
  have h2 := hd x hx
  obtain ⟨c, q⟩ := x
  cases c <;> try exact Bool.false_ne_true
  rename_i id a
  obtain ⟨l, kw⟩ := a
  delta Builtin.Bytes.exported.match_1
  dsimp only
  have g1 : guardIds.contains id = false := h1
  have ne : ∀ n, guardIds.contains n = true → id ≠ n := fun n hn e => by rw [e, hn] at g1; exact Bool.noConfusion g1
  intro hh
  have hh : dite (id = "bytearray.__contains__") _ _ = true := hh
  rw [dif_neg (ne _ (by decide +kernel)), dif_neg (ne _ (by decide +kernel)), dif_neg (ne _ (by decide +kernel)), dif_neg (ne _ (by decide +kernel)), dif_neg (ne _ (by decide +kernel))] at hh
  cases l with
  | nil => exact Bool.false_ne_true hh
  | cons v r =>
   have hh : (Builtin.Bytes.sameRef v self && Builtin.Bytes.decodersThatHold.contains id) = true := hh
   rw [show Builtin.Bytes.decodersThatHold.contains id = false from h2, Bool.and_false] at hh
   exact Bool.false_ne_true hh
theorem ba_bind' (v : Value) : bindSpecial (.builtin "bytearray.__init__") v = pure (.builtin "bytearray.__init__", [v]) := ba_init.bind v
theorem ba_kind : builtinKind "bytearray.__init__" = some .slot := by decide +kernel
theorem ba_split : splitId "bytearray.__init__" = some ("bytearray", "__init__") := by decide +kernel
theorem ba_args (a : Value) : argsOk "bytearray.__init__" ⟨[a], []⟩ := by unfold argsOk; kernel_rfl
theorem ba_nodec (a : Args) : dec (.builtin "bytearray.__init__" a) = false := by show Builtin.Bytes.decodersThatHold.contains "bytearray.__init__" = false; decide +kernel
theorem ba_check (v : Value) {Q : Unit → Shared → Prop} (hT : s.TypeIs v "bytearray") (h : Q () s) : wpAny (model prog w) A (checkBuiltinCall "bytearray.__init__" ⟨[v], []⟩) Q E s := by
 refine check_slot (i := "bytearray.__init__") (self := v) (rest := []) (kw := []) (owner := "bytearray") (n := "__init__") ba_kind ba_split ?_ (ba_args v) h
 intro A' Q' E' s' k q
 have hT' : s'.TypeIs v "bytearray" := by
  cases v with
  | ref a => obtain ⟨o, ho, hc⟩ := hT; exact ⟨o, k _ _ ho, hc⟩
  | _ => exact hT
 exact wpAny_isInstance hT' ba_sub q
theorem ba_ends : ("bytearray.__release_buffer__".endsWith ("." ++ "__release_buffer__")) = true := by decide +kernel
theorem ba_drop : "bytearray.__release_buffer__".dropRight ("__release_buffer__".length + 1) = "bytearray" := by decide +kernel
theorem ba_own {x : Addr} {Q : Bool → Shared → Prop} (hT : s.TypeIs (.ref x) "bytearray") (h : Q false s) : wpAny M A (Builtin.Bytes.ownRelease (.ref x)) Q E s := by
 unfold Builtin.Bytes.ownRelease Builtin.Bytes.slotIsOwn
 refine wpAny_bind (wpAny_bind (wpAny_specialOf hT ba_release ?_))
 dsimp only
 rw [ba_ends, ba_drop]
 exact wpAny_isInstance hT ba_sub (wpAny_pure h)
theorem code_ba_init {x : Addr} (hg : A.guards = some []) (hx : s.heap.get? x = some barrO)
  (h : ∀ h', (∀ b o, s.heap.get? b = some o → h'.get? b = some o) → R (.ok (.ret .none)) { s with heap := h' }) :
  codeN (model prog w) A (.call (.builtin "bytearray.__init__") ⟨[.ref x], []⟩) R s := by
 have hT : s.TypeIs (.ref x) "bytearray" := ⟨_, hx, rfl⟩
 refine codeN_of_tree rfl ?_
 show wpN _ A.in1 (do checkBuiltinCall "bytearray.__init__" ⟨[.ref x], []⟩; again (.builtin "bytearray.__init__" ⟨[.ref x], []⟩)) _ _ s
 refine wpN_bindA (ba_check _ hT (wpN_pure ⟨plainId_quiet ba_plain_init _, codeN_builtin (ba_nodec _) ba_entry_init ?_⟩))
 rw [Around.under_plainId ba_plain_init _]
 unfold Builtin.«bytearray.__init__»
 refine wpN_bindA (ba_own hT ?_)
 show wpN _ _ (Builtin.Bytes.bindOptional "bytearray.__init__" "bytearray" ["source", "encoding", "errors"] [] [] >>= _) _ _ _
 refine wpN_bindA (wpAny_of_eq ba_bind ?_)
 refine wpN_bindA (wpAny_of_eq (a := ()) rfl ?_)
 refine wpN_bindA (wpAny_of_eq (a := ()) rfl ?_)
 refine wpN_bind (wpN_bind (wpN_exported hg ?_))
 show wpN _ _ (Builtin.Bytes.exportsOf (.ref x) >>= _) _ _ _
 refine wpN_bindA (wpAny_bind (wpAny_load hx (wpAny_pure ?_)))
 refine wpN_pure ?_
 show wpN _ _ (Builtin.Bytes.write (.ref x) (fun _ => #[]) >>= _) _ _ _
 refine wpN_bindA ?_
 show wpAny _ _ (updateBytearray x (fun _ => #[])) _ _ _
 unfold updateBytearray
 refine wpAny_bind (wpAny_load hx ?_)
 show wpAny _ _ (update x (Obj.mapBytearray (fun _ => #[])) >>= fun _ => lookBehind x) _ _ _
 refine wpAny_bind (wpAny_update hx ?_)
 have hx' : (s.heap.update x (Obj.mapBytearray (fun _ => #[]))).get? x = some barrO := Heap.get?_update_self (Obj.mapBytearray (fun _ => #[])) hx rfl
 refine wpAny_lookBehind hx' rfl ?_
 have z := h (s.heap.update x (Obj.mapBytearray (fun _ => #[]))) fun b o e => by
  by_cases q : b = x
  ·subst q; rw [hx] at e; cases e; exact hx'
  ·exact (Heap.get?_update_other _ _ (Ne.symm q)).trans e
 refine wpN_bindA (wpAny_of_eq (a := ()) rfl ?_)
 exact wpN_pure z
end
end
end Mine
set_option maxRecDepth 100000
set_option genInjectivity false
set_option genSizeOf false
namespace Mine
open PySem PySem.W PySem.Calls PyProof.Rows
section
section
variable {w : World} {A : Around} {E : Value → Shared → Prop} {s : Shared} {R : Result → Shared → Prop} {prog : Program} {M : Model}
theorem tc_nodec (a : Args) : dec (.builtin "type.__call__" a) = false := by show Builtin.Bytes.decodersThatHold.contains "type.__call__" = false; decide +kernel
theorem wpN_callSpecial {obj : Value} {name : Str} {f : Value} {Q : Option Value → Shared → Prop} {args : List Value} (h1 : wpAny M A (specialOf obj name) (fun r s' => r = some f ∧ s' = s) (fun _ _ => False) s) (h2 : wpAny M A (bindSpecial f obj) (fun r s' => r = (f, [obj]) ∧ s' = s) (fun _ _ => False) s)
  (h : wpN M A (call f (obj :: args)) (fun v => Q (some v)) E s) : wpN M A (callSpecial? obj name args) Q E s := by
 unfold callSpecial?
 refine wpN_bindA (wpAny_mono h1 (fun r s' e => ?_) fun _ _ e => e.elim)
 obtain ⟨rfl, rfl⟩ := e
 dsimp only
 refine wpN_holding (wpN_bindA (wpAny_mono h2 (fun r s' e => ?_) fun _ _ e => e.elim))
 obtain ⟨rfl, rfl⟩ := e
 refine wpN_bind (wpN_mono h (fun v s' q => wpN_pure q) fun _ _ e => e)
theorem call_barr {Q : Value → Shared → Prop} (hg : A.guards = some []) (h : ∀ h', (∀ b o, (s.heap.push barrO).get? b = some o → h'.get? b = some o) → Q (.ref s.heap.objs.size) { s with heap := h' }) :
  wpN (model prog w) A (call (.type "bytearray") []) Q E s := by
 refine wpN_call (codeN_of_tree rfl ?_)
 show wpN _ _ (callAny (.type "bytearray") _) _ _ _
 refine wpN_pure ⟨Code.quiet_builtin _ (by decide +kernel), codeN_builtin (tc_nodec _) F.entry_type_call ?_⟩
 rw [Around.under_plain (weight_type_call_type "bytearray" [] []) rfl]
 unfold Builtin.«type.__call__»
 simp only [show (Value.type "bytearray" == Value.type "type") = false by decide, Bool.false_eq_true, if_false, ba_canCreate, ba_typeCall, ba_mro, ba_made, pure_bind, List.isEmpty_cons]
 refine wpN_bindA (wpAny_holding (wpAny_call (codeAny_mono (code_ba_new (E := fun _ _ => False) (Q₁ := fun v s' => v = .ref s.heap.objs.size ∧ s' = { s with heap := s.heap.push barrO }) ⟨rfl, rfl⟩) fun r s' e => ?_)))
 rcases r with e' | (v | _ | _ | _) <;> first | exact e.elim | skip
 obtain ⟨rfl, rfl⟩ := e
 have hx : (s.heap.push barrO).get? s.heap.objs.size = some barrO := Heap.get?_push_size _ rfl
 have hT : ({ s with heap := s.heap.push barrO } : Shared).TypeIs (.ref s.heap.objs.size) "bytearray" := ⟨_, hx, rfl⟩
 refine wpN_bindA (wpAny_isInstance hT ba_sub ?_)
 simp only [Bool.not_true, Bool.false_eq_true, if_false]
 refine wpN_bind (wpN_holding (wpN_callSpecial (f := .builtin "bytearray.__init__") (wpAny_specialOf hT ba_init.lookup ⟨rfl, rfl⟩) (wpAny_of_eq (ba_bind' _) ⟨rfl, rfl⟩) (wpN_call (codeN_mono (code_ba_init (R := fun r s' => r = .ok (.ret .none) ∧ Q (.ref s.heap.objs.size) s') hg hx fun h' hk => ⟨rfl, h h' hk⟩) fun r s' e => ?_))))
 obtain ⟨rfl, e⟩ := e
 show wpN _ _ (ret (.ref s.heap.objs.size)) _ _ _
 exact wpN_pure e
end
end
end Mine
set_option maxRecDepth 100000
set_option maxHeartbeats 4000000
set_option genInjectivity false
set_option genSizeOf false
namespace Mine
open PySem PySem.W PySem.Calls PyProof.Rows Builtin
section
section
variable {w : World} {A : Around} {E : Value → Shared → Prop} {R : Result → Shared → Prop} {prog : Program} {h : Heap} {g : Array GenState} {d : Drawn} {t : Nat} {os : OsState} {C : Addr}
theorem makeN {rest : List Value} {fI : Addr} {K : Frag} (X : K.In h) (hm : makesIn K C = true)
  (hi : findIn K (.ref C) "__init__" = some (some (.ref fI))) (hf : typeIn K (.ref fI) = some (.type "function"))
  (hq : codeN (model prog w) (A.under (.builtin "type.__call__" ⟨.ref C :: rest, []⟩)) (.call (.ref fI) ⟨.ref (h.objs.size + 1) :: rest, []⟩) (InitBack (h.objs.size + 1) R) ⟨(h.push emptyDict).push (instObj C h.objs.size), g, d, t, os⟩) :
  codeN (model prog w) A (.call (.ref C) ⟨rest, []⟩) R ⟨h, g, d, t, os⟩ := by
 have Y := makes_of (M := model prog w) X hm
 have hi' := looks_findIn (M := model prog w) X hi
 have Y' := Y
 obtain ⟨⟨oc, od, cd, sl, hC, e1, e2, e4⟩, made, base, self, top, call, typ⟩ := Y
 refine codeN_of_tree rfl ?_
 show wpN _ _ (callAny (.ref C) _) _ _ _
 refine wpN_bindA (m := load C) (wpAny_load hC ?_)
 show wpN _ _ (callAny.viaDunder (.ref C) _) _ _ _
 unfold callAny.viaDunder
 refine wpN_bindA (call.at ?_)
 dsimp only
 rw [tc_bind]
 refine wpN_bindA (wpAny_pure (wpN_bindA (wpAny_pure ?_)))
 refine wpN_pure (a := Fin.again (.call (.builtin "type.__call__") ⟨.ref C :: rest, []⟩)) (And.intro rfl ?_)
 refine codeN_of_tree rfl ?_
 show wpN _ A.in1 (do checkBuiltinCall "type.__call__" ⟨.ref C :: rest, []⟩; again (.builtin "type.__call__" ⟨.ref C :: rest, []⟩)) _ _ _
 refine wpN_bindA (check_slot tc_kind tc_split typ (tc_args _ _ _) (wpN_pure (And.intro (Code.quiet_builtin _ (by decide +kernel)) (codeN_builtin (tc_nodec _) entry_typeCall ?_))))
 unfold Builtin.«type.__call__»
 have hm : Looks (model prog w) h (mroOf (.ref C)) cd.mro := ((Looks.ld (part := none) hC).andThen .now).andThen .now
 show wpN _ _ (mroOf (.ref C) >>= _) _ _ _
 refine wpN_bindA (hm.at ?_)
 simp only [e4, Bool.false_eq_true, if_false]
 refine wpN_bindA (made.at ?_)
 dsimp only
 show wpN _ _ (pure (Value.builtin "object.__new__") >>= _) _ _ _
 refine wpN_bindA (wpAny_pure ?_)
 have k : ∀ b o, h.get? b = some o → ((h.push emptyDict).push (instObj C h.objs.size)).get? b = some o := fun b o e => Heap.get?_push_of_some _ (Heap.get?_push_of_some _ e)
 have hx : ((h.push emptyDict).push (instObj C h.objs.size)).get? (h.objs.size + 1) = some (instObj C h.objs.size) := by heap_get
 refine wpN_bindA (wpAny_holding (wpAny_call (codeAny_mono (new_K (R := fun r s' => r = .ok (.ret (.ref (h.objs.size + 1))) ∧ s' = ⟨(h.push emptyDict).push (instObj C h.objs.size), g, d, t, os⟩) Y' hi' (.inl rfl) ⟨rfl, rfl⟩) fun r s' e => ?_)))
 obtain ⟨rfl, rfl⟩ := e
 have t1 : Looks (model prog w) ((h.push emptyDict).push (instObj C h.objs.size)) (typeOf (.ref (h.objs.size + 1))) (.ref C) := (Looks.ld hx).andThen .now
 have s1 := self.keeps k
 have i1 := hi'.keeps k
 have b1 := (bind_fn (M := model prog w) X (.ref (h.objs.size + 1)) hf).keeps k
 refine wpN_bindA ((t1.andThen s1 : Looks _ _ (isInstance (.ref (h.objs.size + 1)) (.ref C)) true).at ?_)
 simp only [Bool.not_true, Bool.false_eq_true, if_false]
 refine wpN_bind (wpN_holding (wpN_callSpecial (f := .ref fI) ((t1.andThen i1 : Looks _ _ (specialOf (.ref (h.objs.size + 1)) "__init__") _).at ⟨rfl, rfl⟩) (b1.at ⟨rfl, rfl⟩) (wpN_call (codeN_mono hq fun r s' z => ?_))))
 rcases r with e | (v | _ | _ | _) <;> first | exact z | exact z.elim | skip
 obtain ⟨rfl, z⟩ := z
 show wpN _ _ (ret (.ref (h.objs.size + 1))) _ _ _
 exact wpN_pure z
end
end
end Mine
set_option maxRecDepth 100000
set_option genInjectivity false
set_option genSizeOf false
namespace Mine
open PySem PySem.W PySem.Calls PyProof.Rows PySem.SeqAt PyProof.V PySem.Spec
section
noncomputable def MSsv (ns : Nk) (x : X) (l : List Stmt) : Prop := match x with
 | .nil => l = []
 | .cons x xs => ∃ a r, l = a :: r ∧ MS ns x a ∧ MSs ns xs r
 | _ => True
theorem MSs.view {ns x l} (m : MSs ns x l) : MSsv ns x l := by
 cases m with
 | nil => exact rfl
 | cons a b => exact ⟨_, _, rfl, a, b⟩
noncomputable def MSv (ns : Nk) (x : X) (st : Stmt) : Prop := match x with
 | .asg t x => ∃ b a p, st = .Assign [b] a p ∧ MT ns t b ∧ ME ns x a ∧ okPair b a = true
 | .ift x y z => ∃ a b d p, st = .If a b d p ∧ ME ns x a ∧ MSs ns y b ∧ MSs ns z d
 | .for_ t x y => ∃ b a d p, st = .For b a d [] p ∧ MT ns t b ∧ ME ns x a ∧ MSs ns y d
 | _ => True
theorem MS.view {ns x st} (m : MS ns x st) : MSv ns x st := by
 cases m with
 | asg a b c => exact ⟨_, _, _, rfl, a, b, c⟩
 | ift a b c => exact ⟨_, _, _, _, rfl, a, b, c⟩
 | for_ a b c => exact ⟨_, _, _, _, rfl, a, b, c⟩
 | _ => trivial
section
variable {M : Model} {A : Around} {E : Value → Shared → Prop} {s : Shared} {pos : Pos} {f : Value} {first : List Value} {Q : Value → Shared → Prop}
theorem callWithN {P : Heap → Prop} {args : List (Bool × Sem Value)} {keywords : List (Option Str × Sem Value)} (hplain : (args.any (·.1) || keywords.any (·.1.isNone)) = false)
  (hk : ∀ h, P h → ∃ k, (k = Keeper.frame ∨ k = Keeper.machine ∨ k = Keeper.boundFrame) ∧ Looks M h (keeperOf f) k)
  (h : wpAny M A (evalArgs f true args keywords) (fun a s₁ => P s₁.heap ∧ wpN M A (call f (first ++ a.pos) a.kw) Q E s₁) E s) : wpN M A (callWith pos f first args keywords) Q E s := by
 unfold callWith
 refine wpN_bindA (wpAny_holding (wpAny_mono h (fun a s₁ h₁ => wpN_bindA (wpAny_standAt ?_)) fun _ _ x => x))
 obtain ⟨k, hk', L⟩ := hk _ h₁.1
 simp only [hplain]
 refine wpN_bindA (L.here ?_)
 have tail : ∀ {t : Sem Value}, wpN M A t Q E s₁ → wpN M A (t >>= fun r => holding [r] point >>= fun _ => pure r) Q E s₁ :=
  fun ht => wpN_bind (wpN_mono ht (fun r s₂ hr => wpN_bindA (wpAny_holding (wpAny_point (wpN_pure hr)))) fun _ _ x => x)
 have marked (mk : Value) : wpN M A (callMarked mk f (first ++ a.pos) a.kw) Q E s₁ := by
  unfold callMarked
  exact fun Γ p hΓ hn => by rw [Sem.wp_keep]; exact h₁.2 Γ p hΓ hn
 rcases hk' with rfl | rfl | rfl <;> dsimp only <;> first | exact tail h₁.2 | (split <;> first | exact tail h₁.2 | exact tail (marked _))
theorem splicedN_cons {x : Sem Value} {rest : List (Bool × Sem Value)} {Q : List Value → Shared → Prop}
  (h : wpN M A x (fun v s₁ => wpAny M A (spliced rest) (fun vs s₂ => Q (v :: vs) s₂) E s₁) E s) : wpN M A (spliced ((false, x) :: rest)) Q E s := by
 rw [spliced]
 refine wpN_bind (wpN_mono h (fun v s₁ h₁ => ?_) fun _ _ x => x)
 simp only [Bool.false_eq_true, if_false]
 exact wpN.of (wpAny_bind (wpAny_pure (wpAny_bind (wpAny_holding (wpAny_mono h₁ (fun vs s₂ h₂ => wpAny_pure h₂) fun _ _ x => x)))))
end
section
variable {K : Frag} {n : Nat} {c : Cx} {A : Around} {E : Value → Shared → Prop} {g : Ow} {σ : XSt} {s : Shared} {env : Env} {ns : Nk}
theorem callArgsN (hs : SEs K n) (B : Base c) (G : Globs c) (S : Stat c K) (Ev : EnvOk c env) (hn : env.scope.names = ns) (hA : AOk A n) (I : Is c g σ s) {x : X} {es : List Expr} (m : MEs ns x es) {kl : KL} (h : (ev tab n).es x σ kl = true) {f : Value} {pos : Pos} {Q : Value → Shared → Prop}
  (hk : ∀ h, KeepP c.h₀ h → ∃ k, (k = Keeper.frame ∨ k = Keeper.machine ∨ k = Keeper.boundFrame) ∧ Looks (model pg c.w) h (keeperOf f) k)
  (hcall : ∀ vs xs σ' g' s', kl xs σ' = true → Grow g g' → RelL c.π g' xs vs → Is c g' σ' s' → wpN (model pg c.w) A (call f vs) Q E s') :
  wpN (model pg c.w) A (callWith pos f [] (backTo pos (starEach es env)) (backToKw pos (keywordEach [] env))) Q E s := by
 refine callWithN (P := KeepP c.h₀) ?_ hk ?_
 ·rw [(backTo_all m pos env).1]; rfl
 ·have go : wpAny (model pg c.w) A (spliced (backTo pos (starEach es env))) (fun vs s' => KeepP c.h₀ s'.heap ∧ wpN (model pg c.w) A (call f vs) Q E s') E s := by
   refine wpAny_mono (hs h m B G S Ev hn hA I) (fun vs s' q => ?_) fun _ _ e => e
   refine Po.elim q fun xs σ' g' h' G' r I' => ?_
   exact ⟨by obtain ⟨mm, nn, J⟩ := I'; exact J.fr.keep, hcall vs xs σ' g' s' h' G' r I'⟩
  cases m with
  | nil => exact evalArgs_nil3 ⟨by obtain ⟨mm, nn, J⟩ := I; exact J.fr.keep, hcall [] [] σ g s (h0_of h) (Grow.refl g) .nil I⟩
  | cons m1 m2 =>
   rw [starEach_cons m1] at go ⊢
   exact evalArgs_plain go
theorem glb_at {x : Nat} {p : Pos} {v : XV} {Q : Value → Shared → Prop} (e : tab.globs.get x = some v) (hl : ns.lookup (nm x) = some .globalImplicit) (hd : okName (nm x)) (G : Globs c) (Ev : EnvOk c env) (hn : env.scope.names = ns) (I : Is c g σ s) {M : Model}
  (hq : ∀ u, RelV c.π g v u → Q u s) : wpAny M A (eval (.Name (nm x) p) env) Q E s := by
 obtain ⟨mg, mb, g1, g2, g3⟩ := G.ns
 obtain ⟨u, hu, r⟩ := g3 x v e
 obtain ⟨m, news, I'⟩ := I
 refine Name_function_global Ev.kind (by show env.scope.names.lookup _ = _; rw [hn]; exact hl) ?_ hd
 rcases hu with hu | ⟨hu, hb⟩
 ·exact loadGlobal_global (by rw [Ev.glb]; exact g1.keeps I'.fr.keep) hu (hq _ (r _ _))
 ·exact loadGlobal_builtin (by rw [Ev.glb]; exact g1.keeps I'.fr.keep) hu (by rw [Ev.blt]; exact g2.keeps I'.fr.keep) hb (hq _ (r _ _))
end
end
end Mine
set_option maxRecDepth 100000
set_option genInjectivity false
set_option genSizeOf false
namespace Mine
open PySem PySem.W PySem.Calls PyProof.Rows PySem.SeqAt PyProof.V PySem.Spec
section
theorem AOk.le {A : Around} {m n : Nat} (h : AOk A m) (hl : n ≤ m) : AOk A n := ⟨h.hd, by have := h.dp; omega, by have := h.un; omega⟩
noncomputable abbrev NextP (c : Cx) (g : Ow) (k : KU) (f : Flow) (s' : Shared) : Prop := f = .next ∧ ∃ σ' g', k σ' = true ∧ Grow g g' ∧ Is c g' σ' s'
noncomputable def MidOk (K : Frag) (l : Nat) (mid : Mid) : Prop := ∀ {x : X} {σ : XSt} {k : KU}, mid x σ k = true → ∀ {ns : Nk} {st : Stmt}, MS ns x st → ∀ {c : Cx} {g : Ow} {s : Shared} {A : Around} {env : Env}, Base c → Globs c → Stat c K → EnvOk c env → env.scope.names = ns → AOk A l → A.guards = some [] → Is c g σ s →
 wpN (model pg c.w) A (exec st env) (NextP c g k) (fun _ _ => False) s
section
variable {K : Frag} {n l : Nat} {c : Cx} {A : Around} {g : Ow} {σ : XSt} {s : Shared} {env : Env} {ns : Nk}
theorem wpN_cons {M : Model} {E : Value → Shared → Prop} {st : Stmt} {rest : List Stmt} {Q : Flow → Shared → Prop} (h : wpN M A (exec st env) (fun f s' => match f with | .next => wpN M A (execs rest env) Q E s' | f => Q f s') E s) : wpN M A (execs (st :: rest) env) Q E s := by
 rw [execs_cons]
 refine wpN_bind (wpN_mono h (fun f s' h' => ?_) fun _ _ e => e)
 cases f <;> first | exact h' | exact wpN_pure h'
theorem preS_ok (hs : SS K n) (B : Base c) (G : Globs c) (S : Stat c K) (Ev : EnvOk c env) (hn : env.scope.names = ns) (hA : AOk A n) {kk : X → XSt → Bool} {Q : Flow → Shared → Prop} {E : Value → Shared → Prop} : ∀ {j : Nat} {xs : X} {ss : List Stmt} {g : Ow} {σ : XSt} {s : Shared}, preS (ev tab n) j xs σ kk = true → MSs ns xs ss → Is c g σ s →
  (∀ xs' ss' σ' g' s', kk xs' σ' = true → MSs ns xs' ss' → Grow g g' → Is c g' σ' s' → wpN (model pg c.w) A (execs ss' env) Q E s') → wpN (model pg c.w) A (execs ss env) Q E s
 | 0, xs, ss, g, σ, s, h, m, I, hk => hk xs ss σ g s h m (Grow.refl g) I
 | j + 1, xs, ss, g, σ, s, h, m, I, hk => by
  cases m with
  | nil => exact nomatch h
  | cons m1 m2 =>
   rename_i x1 a1 xr ar
   change (ev tab n).s x1 σ (fun f σ => match f with | .next => preS (ev tab n) j xr σ kk | .ret _ => false) = true at h
   refine wpN_cons (wpN.of (Po.go (hs h m1 B G S Ev hn hA I) fun f s1 fl σ1 g1 h1 G1 rf I1 => ?_))
   cases fl with
   | ret _ => exact nomatch h1
   | next =>
    cases f with
    | next => exact preS_ok hs B G S Ev hn hA h1 m2 I1 fun xs' ss' σ' g' s' k' m' G' I' => hk xs' ss' σ' g' s' k' m' (G1.trans G') I'
    | _ => exact rf.elim
theorem bodyN_okM (F : Facts K) (hs : SS K n) (hss : SSs K n) {mid : Mid} {j : Nat} (hm : MidOk K l mid) (hl : n ≤ l) {a : Addr} {fi : FI} (ha : tab.funs.get a = some fi) {args : List XV} {vs : List Value} {k : KV} (h : bodyN (ev tab n) fi j mid args σ k = true)
  (B : Base c) (G : Globs c) (S : Stat c K) (hA : AOk A (l + 1)) (hg : A.guards = some []) {m : Str → Option Value} {news : List (Addr × Obj)} (I' : Inv c g m news σ s) (r : RelL c.π g args vs) : codeN (model pg c.w) A (.call (.ref a) ⟨vs, []⟩) (RetP (PoM c g m (RelV c.π) k)) s := by
 unfold bodyN at h
 split at h
 ·rename_i bs e2
  obtain ⟨o, fd, body, k1, k2, k3, k4, k5, k6, k7, k8, k9, k10, k11, k12⟩ := ((F.fn B G S).ok a fi ha).ex
  obtain ⟨binds, b1, b2, b3⟩ := k12 c.π g args bs vs s e2 r I'.fr.keep
  have X := S.kin.keeps I'.fr.keep
  refine codeN_def hA.deep (X _ _ k1) k2 (B.lim.keeps I'.fr.keep) (codeRec_of X k11) k3 b1 k8 b2 (fun h₀ hns hk => ?_) k6 k7 k5
  obtain ⟨oL, es, ep, d1, I2⟩ := I'.enter hns hk (Nat.zero_le _) b3
  have Ev : EnvOk (c.into oL s.heap.objs.size) (callEnv fd s.heap.objs.size a) := ⟨k5, rfl, k9, k10⟩
  have hA2 : AOk (A.deeper (callEnv fd s.heap.objs.size a)) l := hA.deeper _
  refine preS_ok hs (B.into oL _) (G.into oL _) (S.into oL _) Ev rfl (hA2.le hl) h k4 (⟨_, _, I2⟩ : Is (c.into oL s.heap.objs.size) g _ _) fun xs' ss' σ' g' s' k' m' G' I3 => ?_
  unfold restX at k'
  split at k'
  ·rename_i x1 xr
   cases m' with
   | cons m1 m2 =>
    refine wpN_cons (wpN_mono (hm k' m1 (B.into oL _) (G.into oL _) (S.into oL _) Ev rfl hA2 hg I3) (fun f s2 q => ?_) fun _ _ e => e)
    obtain ⟨rfl, σ2, g2, h2, G2, I4⟩ := q
    refine wpN.of (wpAny_mono (hss h2 m2 (B.into oL _) (G.into oL _) (S.into oL _) Ev rfl (hA2.le hl) I4) (fun fl s3 q => ?_) fun _ _ e => e)
    obtain ⟨f, σ3, g3, h3, G3, rf, m3, news3, I5⟩ := q
    have I6 := I5.leave d1.2 I'.fr.above I'.heldNe I'.loc ((G'.trans G2).trans G3)
    cases f with
    | next =>
     cases fl with
     | next => exact ⟨_, _, g3, _, h3, (G'.trans G2).trans G3, rfl, I6⟩
     | _ => exact rf.elim
    | ret x =>
     cases fl with
     | ret v => exact ⟨_, _, g3, _, h3, (G'.trans G2).trans G3, rf, I6⟩
     | _ => exact rf.elim
  ·cases k'
 ·cases h
theorem bodyN_ok (F : Facts K) (hs : SS K n) (hss : SSs K n) {mid : Mid} {j : Nat} (hm : MidOk K l mid) (hl : n ≤ l) {a : Addr} {fi : FI} (ha : tab.funs.get a = some fi) {args : List XV} {vs : List Value} {k : KV} (h : bodyN (ev tab n) fi j mid args σ k = true)
  (B : Base c) (G : Globs c) (S : Stat c K) (hA : AOk A (l + 1)) (hg : A.guards = some []) (I : Is c g σ s) (r : RelL c.π g args vs) : codeN (model pg c.w) A (.call (.ref a) ⟨vs, []⟩) (RetP (Po c g (RelV c.π) k)) s := by
 obtain ⟨m, news, I'⟩ := I
 refine codeN_mono (bodyN_okM F hs hss hm hl ha h B G S hA hg I' r) fun res s' q => ?_
 cases res with
 | error e => exact q
 | ok f =>
  cases f with
  | ret v => obtain ⟨b, σ', g', nn, z1, z2, z3, z4⟩ := q; exact ⟨b, σ', g', z1, z2, z3, m, nn, z4⟩
  | _ => exact q
theorem midB_ok (F : Facts K) (I0 : ∀ m, m ≤ n → AllOk K m) : MidOk K n (midB tab (ev tab n)) := by
 intro x σ k h ns st m c g s A env B G S Ev hn hA hg I
 unfold midB at h
 split at h
 ·rename_i t gi
  split at h
  ·rename_i e1
   obtain ⟨te, ae, p, rfl, mt, me, hp⟩ := m.view
   obtain ⟨fe, es0, p2, rfl, m1, hat, m2⟩ := me.view
   obtain ⟨pf, rfl, hl, hd⟩ := m1.view
   obtain rfl : es0 = [] := m2.view
   refine allocX_el (show allocX .barr σ (fun i σ => (ev tab n).a t (.own i) σ k) = true from h) ?_; intro q1 q2
   obtain ⟨r, er, hr⟩ := rest_asg (E := fun _ _ => False) (I0 _ (Nat.le_refl _)).a B G S Ev hn hA mt (.cal (.glb hl hd) hat .nil : ME ns _ (.Call (.Name (nm gi) pf) [] [] p2)) hp (swaps_none rfl) (p := p)
   rw [er]
   refine wpN_bindA (wpAny_standAt (wpN_bind ?_))
   have e0 : eval (.Call (.Name (nm gi) pf) [] [] p2) env = (do callWith p2 (← eval (.Name (nm gi) pf) env) [] (backTo p2 (starEach [] env)) (backToKw p2 (keywordEach [] env))) := rfl
   rw [e0]
   refine wpN_bindA (glb_at e1 hl hd G Ev hn I fun u ru => ?_)
   have : u = .type "bytearray" := ru
   subst this
   refine Is.el I ?_; intro mm news I'
   refine callWithN (P := fun _ => True) rfl (fun hp _ => keeps_plain rfl hp) (evalArgs_nil3 ⟨trivial, call_barr hg fun h' hk => ?_⟩)
   have hsz : ∀ b o, s.heap.get? b = some o → h'.get? b = some o := fun b o e => hk b o (Heap.get?_push_of_some _ e)
   have hob : h'.get? s.heap.objs.size = some barrO := hk _ _ (Heap.get?_push_size _ rfl)
   have hN : News c.h₀ c.L h' ((s.heap.objs.size, barrO) :: news) := fun q hq => by
    rcases List.mem_cons.mp hq with rfl | hq
    ·exact ⟨hob, Ne.symm (Nat.ne_of_lt I'.fr.ns.lt), none_at (h := s.heap) fun b o e => I'.fr.keep b o e⟩
    ·exact ⟨hsz _ _ (I'.nw q hq).1, (I'.nw q hq).2⟩
   have J := I'.made (o := .barr) (ob := barrO) (t := s.toks) q1 (I'.fr.keeps hsz) hN I'.sizes rfl (Nat.zero_le _)
   refine wpN.of (wpAny_mono (hr q2 ⟨s.heap.objs.size, by rw [I'.nx]; simp, rfl⟩ (⟨_, _, J⟩ : Is c _ _ _)) (fun f s' q => ?_) fun _ _ e => e)
   obtain ⟨rfl, σ', g', h', G', I2⟩ := q
   exact ⟨rfl, σ', g', h', (Grow.snoc g _).trans G', I2⟩
  ·cases h
 ·cases h
end
end
end Mine
set_option maxRecDepth 100000
set_option genInjectivity false
set_option genSizeOf false
namespace Mine
open PySem PySem.W PySem.Calls PyProof.Rows PySem.SeqAt PyProof.V PySem.Spec
section
section
variable {K : Frag} {n l : Nat} {c : Cx} {A : Around} {g : Ow} {σ : XSt} {s : Shared} {env : Env} {ns : Nk}
theorem under_ok {m : Nat} (h : AOk A (m + 1)) (C : Addr) (pos : List Value) (hg : A.guards = some []) : (A.under (.builtin "type.__call__" ⟨.ref C :: pos, []⟩)).guards = some [] := by
 have hgd : (Code.builtin "type.__call__" ⟨.ref C :: pos, []⟩).guards = [] := by
  unfold Code.guards
  have : (Code.builtin "type.__call__" ⟨.ref C :: pos, []⟩).isGuard = false := by show guardIds.contains "type.__call__" = false; decide +kernel
  rw [this]; rfl
 unfold Around.under
 dsimp only
 rw [hgd]; exact hg
theorem newN_ok (F : Facts K) (I0 : ∀ m, m ≤ n → AllOk K m) {mid : Mid} {j : Nat} (hm : MidOk K l mid) (hl : n ≤ l) {C : Addr} {ci : CI} (hc : tab.clss.get C = some ci) {xs : List XV} {vs : List Value} {k : KV} (h : newN tab (ev tab n) j mid C ci xs σ k = true)
  (B : Base c) (G : Globs c) (S : Stat c K) (hA : AOk A (l + 2)) (hg : A.guards = some []) (I : Is c g σ s) (r : RelL c.π g xs vs) : wpN (model pg c.w) A (call (.ref C) vs) (Po c g (RelV c.π) k) (fun _ _ => False) s := by
 have cl := S.cls C ci hc
 refine Is.el I ?_; intro m news I'
 obtain ⟨h1, h2⟩ := allocX_ok (show allocX (.flds []) σ (fun d σ => allocX (.inst C d) σ fun i σ => match tab.funs.get ci.init with
  | some f => bodyN (ev tab n) f j mid (.own i :: xs) σ fun v σ => br (isNone v) (k (.own i) σ) false
  | none => false) = true from h)
 refine allocX_el h2 ?_; intro h3 h4
 split at h4
 ·rename_i fi e1
  have F1 := I'.fr.push emptyDict
  have N1 : News c.h₀ c.L (s.heap.push emptyDict) ((s.heap.objs.size, dictOf [] 0) :: news) := I'.nw.push I'.fr emptyDict rfl
  have I1 := I'.made (o := .flds []) (t := s.toks) h1 F1 N1 I'.sizes ⟨[], 0, rfl, .nil⟩ I'.toks
  have N2 := N1.push F1 (instObj C s.heap.objs.size) rfl
  rw [Heap.size_push] at N2
  have l1 : ∀ p ∈ (s.heap.objs.size, dictOf [] 0) :: news, p.1 < s.heap.objs.size + 1 := fun p hp => by
   rcases List.mem_cons.mp hp with rfl | hp
   ·exact Nat.lt_succ_self _
   ·exact Nat.lt_succ_of_lt (I'.sizes p hp)
  have I2 := I1.made h3 (F1.push (instObj C s.heap.objs.size)) N2 (t := s.toks) (o := .inst C σ.nx) l1 ⟨s.heap.objs.size, by rw [I'.nx]; simp, rfl⟩ I'.toks
  have gx : (g ++ [s.heap.objs.size] ++ [s.heap.objs.size + 1])[σ.nx + 1]? = some (s.heap.objs.size + 1) := by rw [I'.nx]; simp
  have Gr : Grow g (g ++ [s.heap.objs.size] ++ [s.heap.objs.size + 1]) := (Grow.snoc g _).trans (Grow.snoc _ _)
  refine wpN_call ?_
  obtain ⟨hp, gs, dr, tk, os⟩ := s
  refine makeN (S.kin.keeps I'.fr.keep) cl.makes cl.init (beq_iff_eq.mp cl.initF) ?_
  refine codeN_mono (bodyN_ok F (I0 n (Nat.le_refl n)).s (I0 n (Nat.le_refl n)).ss hm hl e1 h4 B G S (in1_under (n := l + 1) hA C vs) (under_ok (m := l + 1) hA C vs hg) (⟨m, _, I2⟩ : Is c _ _ _) (.cons ⟨_, gx, rfl⟩ (RelL.grow Gr r))) fun res s' hr => ?_
  cases res with
  | error e => exact hr.elim
  | ok f =>
   cases f with
   | ret v =>
    obtain ⟨b, σ', g', z1, z2, z3, z4⟩ := hr
    refine br_el z1 ?_; intro q1 q2
    exact ⟨isNone_none q1 z3, .own (σ.nx + 1), σ', g', q2, Gr.trans z2, ⟨_, z2.get gx, rfl⟩, z4⟩
   | _ => exact hr.elim
 ·cases h4
theorem midE_ok (F : Facts K) (I0 : ∀ m, m ≤ n → AllOk K m) : MidOk K (n + 2) (midE tab (ev tab n)) := by
 intro x σ k h ns st m c g s A env B G S Ev hn hA hg I
 have J0 := I0 n (Nat.le_refl n)
 unfold midE at h
 split at h
 ·rename_i t gi es r
  split at h
  ·rename_i C e1
   split at h
   ·rename_i ci e2
    obtain ⟨te, ae, p, rfl, mt, me, hp⟩ := m.view
    obtain ⟨as1, k0, p0, rfl, ms⟩ := me.view
    obtain ⟨a0, as0, rfl, mc, mr⟩ := ms.view
    obtain ⟨fe, es0, p2, rfl, m1, hat, m2⟩ := mc.view
    obtain ⟨pf, rfl, hl, hd⟩ := m1.view
    have hA0 : AOk A n := hA.le (by omega)
    have mec : ME ns (.tup (.cons (.cal (.glb gi) es) r)) (.Tuple (.Call (.Name (nm gi) pf) es0 [] p2 :: as0) k0 p0) := .tup (.cons (.cal (.glb hl hd) hat m2) mr)
    obtain ⟨rr, er, hr⟩ := rest_asg (E := fun _ _ => False) (I0 _ (Nat.le_refl _)).a B G S Ev hn hA0 mt mec hp (swaps_none rfl) (p := p)
    rw [er]
    refine wpN_bindA (wpAny_standAt (wpN_bind ?_))
    have e3 : eval (.Tuple (.Call (.Name (nm gi) pf) es0 [] p2 :: as0) k0 p0) env = (do standAt p0; newTuple (← spliced (backTo p0 (starEach (.Call (.Name (nm gi) pf) es0 [] p2 :: as0) env)))) := rfl
    rw [e3, starEach_cons (.cal (.glb hl hd) hat m2 : ME ns _ (.Call (.Name (nm gi) pf) es0 [] p2))]
    refine wpN_bindA (wpAny_standAt (wpN_bind ?_))
    show wpN _ A (spliced ((false, eval (.Call (.Name (nm gi) pf) es0 [] p2) env) :: backTo p0 (starEach as0 env))) _ _ s
    refine splicedN_cons ?_
    have e0 : eval (.Call (.Name (nm gi) pf) es0 [] p2) env = (do callWith p2 (← eval (.Name (nm gi) pf) env) [] (backTo p2 (starEach es0 env)) (backToKw p2 (keywordEach [] env))) := rfl
    rw [e0]
    refine wpN_bindA (glb_at e1 hl hd G Ev hn I fun u ru => ?_)
    have : u = .ref C := ru
    subst this
    refine callArgsN J0.es B G S Ev hn hA0 I m2 h (fun hp hk => keeps_K (S.cls _ ci e2).keep _ (S.kin.keeps hk)) fun vs xs σ1 g1 s1 h1 G1 r1 I1 => ?_
    refine wpN_mono (newN_ok F I0 (midB_ok F I0) (Nat.le_refl n) e2 h1 B G S hA hg I1 r1) (fun v s2 q => ?_) fun _ _ e => e
    refine Po.elim q fun xv σ2 g2 h2 G2 r2 I2 => ?_
    refine Po.go (J0.es h2 mr B G S Ev hn hA0 I2) fun ws s3 ys σ3 g3 h3 G3 r3 I3 => ?_
    refine wpN.of (Po.go (newTuple_ok h3 I3 (.cons (r2.grow G3) r3)) fun tv s4 tx σ4 g4 h4 G4 r4 I4 => ?_)
    refine wpN.of (wpAny_mono (hr h4 r4 I4) (fun f s' q => ?_) fun _ _ e => e)
    obtain ⟨rfl, σ', g', h', G', I5⟩ := q
    exact ⟨rfl, σ', g', h', (((G1.trans G2).trans G3).trans G4).trans G', I5⟩
   ·cases h
  ·cases h
 ·cases h
theorem midR_ok (F : Facts K) (I0 : ∀ m, m ≤ n → AllOk K m) : MidOk K (n + 3) (midR tab (ev tab n)) := by
 intro x σ k h ns st m c g s A env B G S Ev hn hA hg I
 have J0 := I0 n (Nat.le_refl n)
 unfold midR at h
 split at h
 ·rename_i t gi es
  split at h
  ·rename_i a e1
   split at h
   ·rename_i fi e2
    obtain ⟨te, ae, p, rfl, mt, me, hp⟩ := m.view
    obtain ⟨fe, es0, p2, rfl, m1, hat, m2⟩ := me.view
    obtain ⟨pf, rfl, hl, hd⟩ := m1.view
    have hA0 : AOk A n := hA.le (by omega)
    obtain ⟨rr, er, hr⟩ := rest_asg (E := fun _ _ => False) (I0 _ (Nat.le_refl _)).a B G S Ev hn hA0 mt (.cal (.glb hl hd) hat m2 : ME ns _ (.Call (.Name (nm gi) pf) es0 [] p2)) hp (swaps_none rfl) (p := p)
    rw [er]
    refine wpN_bindA (wpAny_standAt (wpN_bind ?_))
    have e0 : eval (.Call (.Name (nm gi) pf) es0 [] p2) env = (do callWith p2 (← eval (.Name (nm gi) pf) env) [] (backTo p2 (starEach es0 env)) (backToKw p2 (keywordEach [] env))) := rfl
    rw [e0]
    refine wpN_bindA (glb_at e1 hl hd G Ev hn I fun u ru => ?_)
    have : u = .ref a := ru
    subst this
    refine callArgsN J0.es B G S Ev hn hA0 I m2 h (fun hp hk => keeps_K (S.fns _ fi e2) _ (S.kin.keeps hk)) fun vs xs σ1 g1 s1 h1 G1 r1 I1 => ?_
    refine wpN_call (codeN_mono (bodyN_ok F J0.s J0.ss (midE_ok F I0) (by omega) e2 h1 B G S hA hg I1 r1) fun res s' q => ?_)
    cases res with
    | error e => exact q.elim
    | ok fl =>
     cases fl with
     | ret v =>
      refine Po.elim q fun xv σ2 g2 h2 G2 r2 I2 => ?_
      refine wpN.of (wpAny_mono (hr h2 r2 I2) (fun f s' q => ?_) fun _ _ e => e)
      obtain ⟨rfl, σ', g', h', G', I5⟩ := q
      exact ⟨rfl, σ', g', h', (G1.trans G2).trans G', I5⟩
     | _ => exact q.elim
   ·cases h
  ·cases h
 ·cases h
theorem topN_okM (F : Facts K) {a : Addr} {j : Nat} {args : List XV} {vs : List Value} {k : KV} (h : topN tab (ev tab n) a j args σ k = true) (B : Base c) (G : Globs c) (S : Stat c K) (hA : AOk A (n + 4)) (hg : A.guards = some []) {m : Str → Option Value} {news : List (Addr × Obj)} (I : Inv c g m news σ s) (r : RelL c.π g args vs) :
  codeN (model pg c.w) A (.call (.ref a) ⟨vs, []⟩) (RetP (PoM c g m (RelV c.π) k)) s := by
 have I0 := all_ok F n
 have J0 := I0 n (Nat.le_refl n)
 unfold topN at h
 split at h
 ·rename_i fi e
  exact bodyN_okM F J0.s J0.ss (midR_ok F I0) (by omega) e h B G S hA hg I r
 ·cases h
end
end
end Mine
set_option genInjectivity false
set_option genSizeOf false
namespace Mine
section
open PySem
noncomputable def ptsA : List Pt := (List.range 9).flatMap fun m => (([0, 1, Int.ofNat m, Int.ofNat m + 1, Int.ofNat m + 2, -1] : List Int)).map fun n => (Int.ofNat m, n)
noncomputable def ptsF : List Pt := [-1, -3, -4, -6, 0, 16, 40].map fun x : Int => (x, 0)
noncomputable def ptsG : List Pt := [16, 24, 17, 18, 20, 4, 1, 0].map fun x : Int => (x, 0)
noncomputable def ptsT : List Pt := (List.range 60).map fun t => (Int.ofNat t, 0)
noncomputable def cases4 : List (List Pt) := [ptsA, ptsF, ptsG, ptsT]
noncomputable def hp0 : Tr XO := Tr.set 12 .nil 0 (.list [.int (.v 2 (·.1)), .int (.v 1 (·.1)), .int (.v 0 (·.2)), .int (.v 3 (·.1))])
noncomputable def isT (v : XV) (_ : XSt) : Bool := match v with
 | .bool b => b
 | _ => false
noncomputable def runC (cs : List (List Pt)) (ring : Int) (state : Nat) : Bool := topN tab (ev tab 300) 1331 1 [.int (.k ring), .str state, .int (.v 0 (·.1)), .own 0] ⟨cs, hp0, 1, []⟩ isT
noncomputable def cs1 (m n f g t : Int) : List (List Pt) := [[(m, n)], [(f, 0)], [(g, 0)], [(t, 0)]]
noncomputable def runTh (ring : Int) : Bool := topN tab (ev tab 300) 1336 0 [.int (.k ring)] ⟨cs1 0 0 0 0 0, .nil, 0, []⟩ isT
end
end Mine
set_option maxRecDepth 100000
set_option genInjectivity false
set_option genSizeOf false
namespace Mine
open PySem PySem.W PySem.Calls PyProof.Rows PySem.SeqAt PyProof.V PySem.Spec
section
structure Start (w : World) (h₀ : Heap) : Prop where
 kept : KeptL w h₀
 lim : h₀.NoLimit
 ns : ∃ mg mb, h₀.Ns mainGlobals mg ∧ h₀.Ns builtinsNs mb ∧ ∀ x : Str, x ≠ "__name__" → mb x = bootBuiltins x
structure LS (h₀ : Heap) (L : Addr) (gens : Array GenState) (drawn : Drawn) (os : OsState) (m : Str → Option Value) (H : List (Addr × Obj)) (s : Shared) : Prop where
 fr : Fr h₀ L s.heap m
 nw : News h₀ L s.heap H
 uniq : (H.map (·.1)).Nodup
 gens : s.gens = gens
 drawn : s.drawn = drawn
 os : s.os = os
section
variable {w : World} {h₀ : Heap} {L : Addr} {gens : Array GenState} {drawn : Drawn} {os : OsState} {m : Str → Option Value} {H : List (Addr × Obj)} {s : Shared} {A : Around}
theorem LS.lt (I : LS h₀ L gens drawn os m H s) : ∀ p ∈ H, p.1 < s.heap.objs.size := fun p hp => Heap.lt_size (I.nw p hp).1
noncomputable def piOf (many near far flags told : Int) : Pi := fun d => match d with
 | 0 => (many, near)
 | 1 => (far, 0)
 | 2 => (flags, 0)
 | _ => (told, 0)
theorem isT_is {v : XV} {σ : XSt} (h : isT v σ = true) : v = .bool true := by
 unfold isT at h
 split at h
 ·rw [h]
 ·cases h
theorem back_LS {π : Pi} {g : Ow} {b : Ow} {news : List (Addr × Obj)} {σ : XSt} {s' : Shared} (I : LS h₀ L gens drawn os m H s) (J : Inv ⟨w, π, h₀, gens, drawn, os, L, H⟩ g m news σ s') : LS h₀ L gens drawn os m H s' :=
 ⟨J.fr, fun p hp => J.nw p (J.held p hp), I.uniq, J.gens, J.drawn, J.os⟩
theorem stateT (T : Start w h₀) (hA : AOk A 304) (hg : A.guards = some []) (I : LS h₀ L gens drawn os m H s) {cs : List (List Pt)} {ring : Int} {state : Nat} (run : runC cs ring state = true) {many near far flags told : Int} {r : Addr} {k : Nat} {t1 t2 t3 t4 t5 t6 t7 : Tok}
  (hc : ∀ d, d < 4 → piOf many near far flags told d ∈ nthL cs d) (hr : s.heap.get? r = some (listOf #[.int flags t1, .int far t2, .int near t3, .int told t4] k)) (hrL : r ≠ L) (hr0 : h₀.get? r = none) (hrH : ∀ p ∈ H, p.1 ≠ r) :
  wpN (model pg w) A (call (.ref 1331) [.int ring t5, .str (nm state) t6, .int many t7, .ref r]) (fun v s' => v = .bool true ∧ LS h₀ L gens drawn os m H s') (fun _ _ => False) s := by
 have Y := T.kept
 obtain ⟨mg, mb, hng, hnb, hbb⟩ := T.ns
 have B : Base ⟨w, piOf many near far flags told, h₀, gens, drawn, os, L, H⟩ := base_of (c := ⟨w, piOf many near far flags told, h₀, gens, drawn, os, L, H⟩) Y T.lim
 have G : Globs ⟨w, piOf many near far flags told, h₀, gens, drawn, os, L, H⟩ := globs_of (c := ⟨w, piOf many near far flags told, h₀, gens, drawn, os, L, H⟩) Y hng hnb hbb
 have S : Stat ⟨w, piOf many near far flags told, h₀, gens, drawn, os, L, H⟩ (HK w.params) := stat_of (c := ⟨w, piOf many near far flags told, h₀, gens, drawn, os, L, H⟩) Y
 have J : Inv ⟨w, piOf many near far flags told, h₀, gens, drawn, os, L, H⟩ [r] m ((r, listOf #[.int flags t1, .int far t2, .int near t3, .int told t4] k) :: H) ⟨cs, hp0, 1, []⟩ s := by
  refine ⟨I.fr, fun p hp => ?_, fun p hp => List.mem_cons_of_mem _ hp, ?_, rfl, by show 1 ≤ 2000; omega, by simp, fun a ha p hp => ?_, fun a ha => ?_, fun i o hi => ?_, (fun y x e => nomatch e), hc, Nat.zero_le _, I.gens, I.drawn, I.os⟩
  ·rcases List.mem_cons.mp hp with rfl | hp
   ·exact ⟨hr, hrL, hr0⟩
   ·exact I.nw p hp
  ·rw [List.map_cons]
   refine List.nodup_cons.mpr ⟨fun hm => ?_, I.uniq⟩
   obtain ⟨p, hp, e⟩ := List.mem_map.mp hm
   exact hrH p hp e
  ·rw [List.mem_singleton.mp ha]; exact hrH p hp
  ·rw [List.mem_singleton.mp ha]; exact ⟨_, List.mem_cons_self⟩
  ·change (Tr.set 12 .nil 0 _).get i = some o at hi
   rw [Tr.get_set _ 12 .nil 0 (by decide)] at hi
   by_cases e : i = 0
   ·subst e
    rw [if_pos rfl] at hi
    cases hi
    refine ⟨r, _, rfl, List.mem_cons_self, _, k, rfl, ?_⟩
    exact .cons ⟨t1, Nat.zero_le _, rfl⟩ (.cons ⟨t2, Nat.zero_le _, rfl⟩ (.cons ⟨t3, Nat.zero_le _, rfl⟩ (.cons ⟨t4, Nat.zero_le _, rfl⟩ .nil)))
   ·rw [if_neg e] at hi; exact nomatch hi
 refine wpN_call (codeN_mono (topN_okM (facts w.params) (n := 300) run B G S hA hg J (.cons ⟨t5, Nat.zero_le _, rfl⟩ (.cons ⟨t6, Nat.zero_le _, rfl⟩ (.cons ⟨t7, Nat.zero_le _, rfl⟩ (.cons ⟨r, rfl, rfl⟩ .nil))))) fun res s' q => ?_)
 cases res with
 | error e => exact q.elim
 | ok f =>
  cases f with
  | ret v =>
   obtain ⟨b, σ', g', nn, z1, z2, z3, z4⟩ := q
   have hb := isT_is z1
   subst hb
   exact ⟨z3, back_LS (b := []) I z4⟩
  | _ => exact q.elim
theorem thriceT (T : Start w h₀) (hA : AOk A 304) (hg : A.guards = some []) (I : LS h₀ L gens drawn os m H s) {ring : Int} (run : runTh ring = true) {t5 : Tok} :
  wpN (model pg w) A (call (.ref 1336) [.int ring t5]) (fun v s' => v = .bool true ∧ LS h₀ L gens drawn os m H s') (fun _ _ => False) s := by
 have Y := T.kept
 obtain ⟨mg, mb, hng, hnb, hbb⟩ := T.ns
 have B : Base ⟨w, piOf 0 0 0 0 0, h₀, gens, drawn, os, L, H⟩ := base_of (c := ⟨w, piOf 0 0 0 0 0, h₀, gens, drawn, os, L, H⟩) Y T.lim
 have G : Globs ⟨w, piOf 0 0 0 0 0, h₀, gens, drawn, os, L, H⟩ := globs_of (c := ⟨w, piOf 0 0 0 0 0, h₀, gens, drawn, os, L, H⟩) Y hng hnb hbb
 have S : Stat ⟨w, piOf 0 0 0 0 0, h₀, gens, drawn, os, L, H⟩ (HK w.params) := stat_of (c := ⟨w, piOf 0 0 0 0 0, h₀, gens, drawn, os, L, H⟩) Y
 have J : Inv ⟨w, piOf 0 0 0 0 0, h₀, gens, drawn, os, L, H⟩ [] m H ⟨cs1 0 0 0 0 0, .nil, 0, []⟩ s := by
  refine ⟨I.fr, I.nw, fun p hp => hp, I.uniq, rfl, by show 0 ≤ 2000; omega, by simp, fun a ha => by simp at ha, fun a ha => by simp at ha, (fun i o hi => nomatch hi), (fun y x e => nomatch e), fun d hd => ?_, Nat.zero_le _, I.gens, I.drawn, I.os⟩
  match d, hd with
  | 0, _ => exact List.mem_cons_self
  | 1, _ => exact List.mem_cons_self
  | 2, _ => exact List.mem_cons_self
  | 3, _ => exact List.mem_cons_self
 refine wpN_call (codeN_mono (topN_okM (facts w.params) (n := 300) run B G S hA hg J (.cons ⟨t5, Nat.zero_le _, rfl⟩ .nil)) fun res s' q => ?_)
 cases res with
 | error e => exact q.elim
 | ok f =>
  cases f with
  | ret v =>
   obtain ⟨b, σ', g', nn, z1, z2, z3, z4⟩ := q
   have hb := isT_is z1
   subst hb
   exact ⟨z3, back_LS (b := []) I z4⟩
  | _ => exact q.elim
end
end
end Mine
set_option maxRecDepth 1000000
set_option maxHeartbeats 0
set_option genInjectivity false
set_option genSizeOf false
namespace Mine
open PySem PySem.W PySem.Calls PyProof.Rows
section
noncomputable def hdX (x : X) : X := match x with
 | .cons h _ => h
 | x => x
noncomputable def tlX (x : X) : X := match x with
 | .cons _ t => t
 | x => x
noncomputable def bdX (x : X) : X := match x with
 | .for_ _ _ b => b
 | x => x
noncomputable def itX (x : X) : X := match x with
 | .for_ _ i _ => i
 | x => x
noncomputable def lw_0 : X := hdX lawB
noncomputable def lw_1 : X := hdX (tlX lawB)
noncomputable def lw_2 : X := hdX (tlX (tlX lawB))
noncomputable def lw_3 : X := hdX (tlX (tlX (tlX lawB)))
noncomputable def lw_4 : X := hdX (tlX (tlX (tlX (tlX lawB))))
noncomputable def lw_5 : X := hdX (tlX (tlX (tlX (tlX (tlX lawB)))))
noncomputable def lw_6 : X := hdX (tlX (tlX (tlX (tlX (tlX (tlX lawB))))))
noncomputable def row4 (a b c d : X) : X := .lst (.cons a (.cons b (.cons c (.cons d .nil))))
noncomputable def kX (i : Int) : X := .k (.int (.k i))
noncomputable def lw_2a : X := .cons (.loc 2) (.cons (.k (.str 32)) (.cons (kX 8) (.cons (row4 (kX 16) (.neg (kX 1)) (kX 4) (kX 21)) .nil)))
noncomputable def lw_2b : X := .cons (.loc 2) .nil
noncomputable def lw_3a : X := .cons (.loc 2) (.cons (.loc 47) (.cons (kX 3) (.cons (row4 (kX 16) (.neg (kX 5)) (kX 4) (kX 21)) .nil)))
noncomputable def lw_5a : X := .cons (.loc 2) (.cons (.loc 47) (.cons (.loc 18) (.cons (.loc 267) .nil)))
noncomputable def notC (f : Nat) (as : X) : X := .not_ (.cal (.glb f) as)
noncomputable def retF : X := .cons (.ret (.k (.bool false))) .nil
noncomputable def lw_3i : X := itX lw_3
noncomputable def lw_5i : X := itX lw_5
noncomputable def lw_50 : X := hdX (bdX lw_5)
noncomputable def lw_51 : X := hdX (tlX (bdX lw_5))
noncomputable def lw_52 : X := hdX (tlX (tlX (bdX lw_5)))
noncomputable def lw_53 : X := hdX (tlX (tlX (tlX (bdX lw_5))))
noncomputable def lw_5b : X := .cons lw_50 (.cons lw_51 (.cons lw_52 (.cons lw_53 (.cons (.ift (notC 297 lw_5a) retF .nil) .nil))))
theorem lawB_eq : lawB = .cons lw_0 (.cons lw_1 (.cons (.ift (.or_ (.cons (notC 297 lw_2a) (.cons (notC 298 lw_2b) .nil))) retF .nil) (.cons (.for_ (.loc 47) lw_3i (.cons (.ift (notC 297 lw_3a) retF .nil) .nil)) (.cons lw_4 (.cons (.for_ (.loc 47) lw_5i lw_5b) (.cons (.ret (.k (.bool true))) .nil)))))) := rfl
noncomputable def optV (o : Option XV) (k : XV → Bool) : Bool := match o with
 | some x => k x
 | none => false
noncomputable def optI (o : Option XI) (k : XI → Bool) : Bool := match o with
 | some x => k x
 | none => false
noncomputable def optZ (z : XI) (k : Int → Bool) : Bool := match z with
 | .k n => k n
 | _ => false
noncomputable def nextB (b : Int) : Int := Int.fmod (b * 39373 + 7) 2147483647
noncomputable def takeR (a b top : Int) (k : XI → Int → Int → Bool) : Bool :=
 br (W.Z.ltB 0 a) (k (.k (Int.fmod a top)) (Int.fdiv a top) b)
  (optI (br (small (nextB b)) (some (.k (nextB b * nextB b))) (br (small (nextB b)) (some (.k (nextB b * nextB b))) none)) fun z =>
   optI (iop Int.fmod z (.k 2147483629)) fun z => optI (iop Int.fdiv z (.k 32)) fun z => optI (iop Int.fmod z (.k top)) fun z => k z a (nextB b))
noncomputable def srcL (a b : Int) : XO := .list [.int (.k a), .int (.k b)]
noncomputable def hpA (a b : Int) : Tr XO := Tr.set 12 .nil 0 (srcL a b)
noncomputable def csZ : List (List Pt) := [[(0, 0)], [(0, 0)], [(0, 0)], [(0, 0)]]
noncomputable def sA (a b : Int) (loc : List (Nat × XV)) : XSt := ⟨csZ, hpA a b, 1, loc⟩
noncomputable def nX (i : Int) : XV := .int (.k i)
noncomputable def sB (a b : Int) (xs : List XV) (loc : List (Nat × XV)) : XSt := ⟨csZ, Tr.set 12 (hpA a b) 1 (.list xs), 2, loc⟩
noncomputable def sC (a b : Int) (xs ys : List XV) (loc : List (Nat × XV)) : XSt := ⟨csZ, Tr.set 12 (Tr.set 12 (hpA a b) 1 (.list xs)) 2 (.list ys), 3, loc⟩
noncomputable def ringL : List XV := [nX 128, nX 4294967296]
noncomputable def flagsL : List XV := [nX 16, nX 16, nX 16, nX 24, nX 17, nX 18, nX 20, nX 4, nX 1, nX 0]
noncomputable def farL : List XV := [nX (-1), nX (-1), nX (-3), nX (-4), nX (-6), nX 0, nX 16, nX 40]
noncomputable def nearL (m : Int) : List XV := [nX 0, nX 1, nX m, nX (m + 1), nX (m + 2), nX (-1)]
theorem eq_1 (a b : Int) (k : KF) : (ev tab 40).s lw_1 (sA a b [(301, .own 0)]) k =
  takeR a b 2 fun z a' b' => optZ z fun n => optV (atX n ringL) fun v => k .next (sB a' b' ringL [(301, .own 0), (2, v)]) := by kernel_rfl
noncomputable abbrev lv1 (R : Int) : List (Nat × XV) := [(301, .own 0), (2, nX R)]
noncomputable abbrev lv2 (R : Int) (q : Nat) : List (Nat × XV) := [(301, .own 0), (2, nX R), (47, .str q)]
noncomputable abbrev lv3 (R : Int) (q : Nat) (m : Int) : List (Nat × XV) := [(301, .own 0), (2, nX R), (47, .str q), (18, nX m)]
noncomputable abbrev lv4 (R : Int) (q : Nat) (m f : Int) : List (Nat × XV) := [(301, .own 0), (2, nX R), (47, .str q), (18, nX m), (12, nX f)]
noncomputable abbrev lv5 (R : Int) (q : Nat) (m f r : Int) : List (Nat × XV) := [(301, .own 0), (2, nX R), (47, .str q), (18, nX m), (12, nX f), (264, nX r)]
theorem eq_50 (a b R : Int) (q : Nat) (k : KF) : (ev tab 40).s lw_50 (sA a b (lv2 R q)) k =
  takeR a b 9 fun z a' b' => k .next (sA a' b' [(301, .own 0), (2, nX R), (47, .str q), (18, .int z)]) := by kernel_rfl
theorem eq_51 (a b R : Int) (q : Nat) (m : Int) (k : KF) : (ev tab 40).s lw_51 (sA a b (lv3 R q m)) k =
  takeR a b 10 fun z a' b' => optZ z fun n => optV (atX n flagsL) fun v => k .next (sB a' b' flagsL [(301, .own 0), (2, nX R), (47, .str q), (18, nX m), (12, v)]) := by kernel_rfl
theorem eq_52 (a b R : Int) (q : Nat) (m f : Int) (k : KF) : (ev tab 40).s lw_52 (sA a b (lv4 R q m f)) k =
  takeR a b 8 fun z a' b' => optZ z fun n => optV (atX n farL) fun v => k .next (sB a' b' farL [(301, .own 0), (2, nX R), (47, .str q), (18, nX m), (12, nX f), (264, v)]) := by kernel_rfl
theorem eq_53 (a b R : Int) (q : Nat) (m f r : Int) (k : KF) : (ev tab 40).s lw_53 (sA a b (lv5 R q m f r)) k =
  takeR a b 6 fun z a' b' => optZ z fun n => optV (atX n (nearL m)) fun v => takeR a' b' 60 fun z2 a2 b2 =>
   k .next (sC a2 b2 (nearL m) [nX f, nX r, v, .int z2] [(301, .own 0), (2, nX R), (47, .str q), (18, nX m), (12, nX f), (264, nX r), (267, .own 2)]) := by kernel_rfl
theorem eq_2a (a b R : Int) (k : KL) : (ev tab 40).es lw_2a (sA a b (lv1 R)) k = k [nX R, .str 32, nX 8, .own 1] (sB a b [nX 16, nX (-1), nX 4, nX 21] (lv1 R)) := by kernel_rfl
theorem eq_2b (a b R : Int) (k : KL) : (ev tab 40).es lw_2b (sA a b (lv1 R)) k = k [nX R] (sA a b (lv1 R)) := by kernel_rfl
theorem eq_3a (a b R : Int) (q : Nat) (k : KL) : (ev tab 40).es lw_3a (sA a b (lv2 R q)) k = k [nX R, .str q, nX 3, .own 1] (sB a b [nX 16, nX (-5), nX 4, nX 21] (lv2 R q)) := by kernel_rfl
theorem eq_3i (a b R : Int) (k : KV) : (ev tab 40).e lw_3i (sA a b (lv1 R)) k = k (.own 1) (sB a b [.str 37, .str 39, .str 35] (lv1 R)) := by kernel_rfl
noncomputable def stL : List XV := [.str 32, .str 36, .str 35, .str 39, .str 37, .str 40, .str 41]
theorem eq_4 (a b R : Int) (k : KF) : (ev tab 40).s lw_4 (sA a b (lv1 R)) k = k .next (sB a b stL [(301, .own 0), (2, nX R), (306, .own 1)]) := by kernel_rfl
theorem eq_5i (a b R : Int) (k : KV) : (ev tab 40).e lw_5i (sB a b stL [(301, .own 0), (2, nX R), (306, .own 1)]) k =
  k (.own 3) ⟨csZ, Tr.set 12 (Tr.set 12 (Tr.set 12 (hpA a b) 1 (.list stL)) 2 (.list [.str 30])) 3 (.list (stL ++ [.str 30])), 4, [(301, .own 0), (2, nX R), (306, .own 1)]⟩ := by kernel_rfl
theorem eq_5a (a b R : Int) (q : Nat) (m f r : Int) (v : XV) (t : Int) (xs ys : List XV) (k : KL) : (ev tab 40).es lw_5a (sC a b xs ys [(301, .own 0), (2, nX R), (47, .str q), (18, nX m), (12, nX f), (264, nX r), (267, .own 2)]) k =
  k [nX R, .str q, nX m, .own 2] (sC a b xs ys [(301, .own 0), (2, nX R), (47, .str q), (18, nX m), (12, nX f), (264, nX r), (267, .own 2)]) := by kernel_rfl
theorem eq_as (a b R : Int) (q : Nat) (k : KU) : (ev tab 40).a (.loc 47) (.str q) (sA a b (lv1 R)) k = k (sA a b (lv2 R q)) := by kernel_rfl
noncomputable def pl_0 : X := hdX fb_1277
noncomputable def pl_1 : X := hdX (tlX fb_1277)
noncomputable def pl_2 : X := hdX (tlX (tlX fb_1277))
noncomputable def pl_t : X := .cmp .NotEq (.loc 305) (.lst .nil)
theorem fb_1277_eq : fb_1277 = .cons (.asg (.loc 307) (.ife pl_t (.sub (.loc 305) (kX 0)) (kX 0))) (.cons pl_1 (.cons pl_2 .nil)) := rfl
noncomputable def sP0 (x : Addr) : XSt := ⟨csZ, .nil, 0, [(305, .sta x)]⟩
noncomputable def sP1 (x : Addr) : XSt := ⟨csZ, Tr.set 12 .nil 0 (.list []), 1, [(305, .sta x)]⟩
noncomputable def sP2 (x : Addr) (v : Int) : XSt := ⟨csZ, Tr.set 12 .nil 0 (.list []), 1, [(305, .sta x), (307, nX v)]⟩
noncomputable def sP3 (x : Addr) (v g : Int) : XSt := ⟨csZ, Tr.set 12 .nil 0 (.list []), 1, [(305, .sta x), (307, nX v), (308, nX g)]⟩
noncomputable def hpP (a b : Int) : Tr XO := Tr.set 12 (Tr.set 12 .nil 0 (.list [])) 1 (srcL a b)
theorem eq_p0n (x : Addr) (k : KV) : (ev tab 40).e (.loc 305) (sP0 x) k = k (.sta x) (sP0 x) := by kernel_rfl
theorem eq_p0l (x : Addr) (k : KV) : (ev tab 40).e (.lst .nil) (sP0 x) k = k (.own 0) (sP1 x) := by kernel_rfl
theorem eq_p1n (x : Addr) (k : KV) : (ev tab 40).e (.loc 305) (sP1 x) k = k (.sta x) (sP1 x) := by kernel_rfl
theorem eq_p1z (x : Addr) (k : KV) : (ev tab 40).e (kX 0) (sP1 x) k = k (nX 0) (sP1 x) := by kernel_rfl
theorem eq_p1a (x : Addr) (v : Int) (k : KU) : (ev tab 40).a (.loc 307) (nX v) (sP1 x) k = k (sP2 x v) := by kernel_rfl
theorem eq_p2 (x : Addr) (v : Int) (k : KF) : (ev tab 40).s pl_1 (sP2 x v) k = k .next ⟨csZ, Tr.set 12 .nil 0 (.list []), 1, [(305, .sta x), (307, nX v), (308, .int (br (gtB (-1 - v) v) (.k (-1 - v)) (.k v)))]⟩ := by kernel_rfl
noncomputable def bigB (g : Int) : Int := br (geB g 1000000000000000000) 1 0
theorem eq_p3 (x : Addr) (v g : Int) (k : KF) : (ev tab 40).s pl_2 (sP3 x v g) k =
  optI (br (small (bigB g)) (some (.k (g * bigB g))) (br (small g) (some (.k (g * bigB g))) none)) fun z =>
   k (.ret (.own 1)) ⟨csZ, Tr.set 12 (Tr.set 12 .nil 0 (.list [])) 1 (.list [.int z, nX (Int.fmod ((Int.fmod g 2147483629 + 17) * 48271) 2147483647)]), 2, [(305, .sta x), (307, nX v), (308, nX g)]⟩ := by kernel_rfl
theorem eq_0a (x : Addr) (k : KL) : (ev tab 40).es (.cons (.loc 305) .nil) (sP0 x) k = k [.sta x] (sP0 x) := by kernel_rfl
theorem lw_0_eq : lw_0 = .asg (.loc 301) (.cal (.glb 294) (.cons (.loc 305) .nil)) := rfl
theorem eq_0b (x : Addr) (a b : Int) (k : KU) : (ev tab 40).a (.loc 301) (.own 1) ⟨csZ, hpP a b, 2, [(305, .sta x)]⟩ k = k ⟨csZ, hpP a b, 2, [(305, .sta x), (301, .own 1)]⟩ := by kernel_rfl
theorem bigB_small (g : Int) : small (bigB g) = true := by
 unfold bigB
 cases geB g 1000000000000000000 <;> rfl
theorem eq_6 (a b R : Int) (k : KF) : (ev tab 40).s (.ret (.k (.bool true))) (sA a b (lv1 R)) k = k (.ret (.bool true)) (sA a b (lv1 R)) := by kernel_rfl
end
end Mine
set_option maxRecDepth 100000
set_option genInjectivity false
set_option genSizeOf false
namespace Mine
open PySem PySem.W PySem.Calls PyProof.Rows PySem.SeqAt PyProof.V PySem.Spec
section
noncomputable abbrev E0 : Value → Shared → Prop := fun _ _ => False
section
variable {M : Model} {A : Around} {E : Value → Shared → Prop} {s : Shared} {env : Env}
theorem wpN_If {test : Expr} {body orelse : List Stmt} {pos : Pos} {Q : Flow → Shared → Prop}
  (h : wpN M A (isTrue test env (eval test env)) (fun b s₂ => if b then wpN M A (execs body env) Q E s₂ else wpN M A (execs orelse env) Q E s₂) E s) :
  wpN M A (exec (.If test body orelse pos) env) Q E s := by
 rw [exec_If]
 refine wpN_bindA (wpAny_standAt (wpN_bind (wpN_mono h (fun b s₂ h₂ => ?_) fun _ _ e => e)))
 cases b <;> exact h₂
theorem wpN_runOwn {c : Code} {Q : Flow → Shared → Prop} (hc : codeN M A c (fun r s' => match r with | .ok f => Q f s' | .error _ => False) s) : wpN M A (runOwn c env) Q E0 s := by
 unfold runOwn
 refine wpN_onRaise (wpN_mono (wpN_run (Q := Q) (E := E0) hc) (fun _ _ h => h) fun _ _ h => h.elim)
theorem wpN_For {target iter : Expr} {body : List Stmt} {pos : Pos} {Q : Flow → Shared → Prop} (hs : ∀ x, foldedSetIterable iter env x = pure x)
  (h : wpAny M A (eval iter env) (fun x s₁ => wpAny M A (pyIter x) (fun it s₂ => codeN M A (.forLoop target it body [] env) (fun r s' => match r with | .ok f => Q f s' | .error _ => False) s₂) E0 s₁) E0 s) :
  wpN M A (exec (.For target iter body [] pos) env) Q E0 s := by
 rw [exec_For]
 refine wpN_bindA (wpAny_standAt (wpN_bindA (wpAny_mono h (fun x s₁ h₁ => ?_) fun _ _ e => e)))
 refine wpN_bindA (wpAny_of_eq (hs x) (wpN_bindA (wpAny_standAt (wpN_bindA (wpAny_holding (wpAny_mono h₁ (fun it s₂ h₂ => ?_) fun _ _ e => e))))))
 exact wpN_runOwn h₂
end
section
variable {w : World} {A : Around} {s : Shared} {R : Result → Shared → Prop} {prog : Program} {env : Env}
theorem forTurnN {target : Expr} {it : Value} {body : List Stmt} (ht : ∀ v, letOwnedTupleGo target it v = pure ())
  (h : wpAny (model prog w) A (pyNext it) (fun r s₁ => match r with
   | none => R (.ok .next) s₁
   | some v => wpAny (model prog w) A (assign target env v) (fun _ s₂ => wpN (model prog w) A (execs body env) (fun f s₃ => match f with
     | .next | .cont => codeN (model prog w) A (.forLoop target it body [] env) R s₃
     | .brk => R (.ok .next) s₃
     | .ret v => R (.ok (.ret v)) s₃) E0 s₂) E0 s₁) E0 s) :
  codeN (model prog w) A (.forLoop target it body [] env) R s := by
 refine codeN_of_tree rfl ?_
 show wpN _ A ((forTurn target it body [] env).onRaise (fun x => do noteFrame x env; theTreesLotGoes x)) _ _ s
 refine wpN_onRaise (wpN_mono (E := E0) ?_ (fun _ _ h => h) fun _ _ h => h.elim)
 simp only [forTurn]
 refine wpN_bindA (wpAny_standAt (wpN_bindA (wpAny_onRaise (wpAny_mono h (fun r s₁ h₁ => ?_) fun _ _ h' => h'.elim))))
 cases r with
 | none => exact wpN_pure ⟨rfl, codeN.of (codeAny_block (wpAny_execs_nil h₁))⟩
 | some v =>
  refine wpN_bindA (wpAny_of_eq (ht v) ?_)
  refine wpN_bindA (wpAny_mono h₁ (fun _ s₂ h₂ => wpN_bind (wpN_mono h₂ (fun f s₃ h₃ => ?_) fun _ _ h' => h')) fun _ _ h' => h')
  cases f with
  | next => exact wpN_pure ⟨rfl, h₃⟩
  | cont => exact wpN_pure ⟨rfl, h₃⟩
  | brk => exact wpN_pure h₃
  | ret v => exact wpN_pure h₃
end
theorem takeR_ok {a b top : Int} {k : XI → Int → Int → Bool} (ht : 0 < top) (h : ∀ d a' b', 0 ≤ d → d < top → k (.k d) a' b' = true) : takeR a b top k = true := by
 unfold takeR
 cases hq : W.Z.ltB 0 a with
 | true => exact h _ _ _ (Int.fmod_nonneg_of_pos _ ht) (Int.fmod_lt_of_pos _ ht)
 | false =>
  have hs : small (nextB b) = true := by
   unfold small nextB
   have h1 := Int.fmod_nonneg_of_pos (b * 39373 + 7) (b := 2147483647) (by omega)
   have h2 := Int.fmod_lt_of_pos (b * 39373 + 7) (b := 2147483647) (by omega)
   rw [Nat.blt_eq]; omega
  rw [hs]
  show k (.k (Int.fmod (Int.fdiv (Int.fmod (nextB b * nextB b) 2147483629) 32) top)) a (nextB b) = true
  exact h _ _ _ (Int.fmod_nonneg_of_pos _ ht) (Int.fmod_lt_of_pos _ ht)
theorem atX_ok {d : Int} {xs : List XV} {k : XV → Bool} (h0 : 0 ≤ d) (h1 : d < xs.length) (h2 : xs.length < 1000000) (h : ∀ v ∈ xs, k v = true) : optV (atX d xs) k = true := by
 unfold atX
 rw [(W.Z.leB_iff 0 d).mpr h0, (W.Z.ltB_iff d 1000000).mpr (by omega)]
 show optV (idxL xs d.toNat) k = true
 rw [idxL_get, List.getElem?_eq_getElem (show d.toNat < xs.length by omega)]
 exact h _ (List.getElem_mem _)
noncomputable def kP (P : Fl → XSt → Prop) : KF := fun f σ => @decide (P f σ) (Classical.propDecidable _)
theorem kP_mk {P : Fl → XSt → Prop} {f σ} (h : P f σ) : kP P f σ = true := @decide_eq_true _ (Classical.propDecidable _) h
theorem kP_is {P : Fl → XSt → Prop} {f σ} (h : kP P f σ = true) : P f σ := @of_decide_eq_true _ (Classical.propDecidable _) h
noncomputable def vP (P : XV → XSt → Prop) : KV := fun f σ => @decide (P f σ) (Classical.propDecidable _)
theorem vP_mk {P : XV → XSt → Prop} {f σ} (h : P f σ) : vP P f σ = true := @decide_eq_true _ (Classical.propDecidable _) h
theorem vP_is {P : XV → XSt → Prop} {f σ} (h : vP P f σ = true) : P f σ := @of_decide_eq_true _ (Classical.propDecidable _) h
noncomputable def lP (P : List XV → XSt → Prop) : KL := fun f σ => @decide (P f σ) (Classical.propDecidable _)
theorem lP_mk {P : List XV → XSt → Prop} {f σ} (h : P f σ) : lP P f σ = true := @decide_eq_true _ (Classical.propDecidable _) h
theorem lP_is {P : List XV → XSt → Prop} {f σ} (h : lP P f σ = true) : P f σ := @of_decide_eq_true _ (Classical.propDecidable _) h
noncomputable def uP (P : XSt → Prop) : KU := fun σ => @decide (P σ) (Classical.propDecidable _)
theorem uP_mk {P : XSt → Prop} {σ} (h : P σ) : uP P σ = true := @decide_eq_true _ (Classical.propDecidable _) h
theorem uP_is {P : XSt → Prop} {σ} (h : uP P σ = true) : P σ := @of_decide_eq_true _ (Classical.propDecidable _) h
noncomputable def zPi : Pi := fun _ => (0, 0)
noncomputable abbrev srcO (a b : Int) (t t' : Tok) (n : Nat) : Obj := listOf #[.int a t, .int b t'] n
structure LI (c : Cx) (r : Addr) (a b : Int) (loc : List (Nat × XV)) (s : Shared) : Prop where
 ex : ∃ m t t' nn, LS c.h₀ c.L c.gens c.drawn c.os m ((r, srcO a b t t' nn) :: c.H) s ∧ RelM c.π [r] loc m
noncomputable def lowB (x : XV) : Bool := match x with
 | .int (.k _) => true
 | .str _ => true
 | .own n => Nat.beq n 0
 | _ => false
theorem RelV.low {π : Pi} {g : Ow} {r : Addr} (hr : g[0]? = some r) {x : XV} {v : Value} (hl : lowB x = true) (h : RelV π g x v) : RelV π [r] x v := by
 unfold lowB at hl
 split at hl
 ·exact h
 ·exact h
 ·rename_i n
  obtain rfl : n = 0 := Nat.eq_of_beq_eq_true hl
  obtain ⟨a, h1, h2⟩ := h
  rw [hr] at h1; cases h1
  exact ⟨r, rfl, h2⟩
 ·cases hl
section
variable {c : Cx} {g : Ow} {m : Str → Option Value} {news : List (Addr × Obj)} {σ : XSt} {s : Shared} {r : Addr} {a b : Int} {loc : List (Nat × XV)}
theorem LI.inv (hz : c.π = zPi) (I : LI c r a b loc s) : ∃ m t t' nn, Inv c [r] m ((r, srcO a b t t' nn) :: c.H) (sA a b loc) s := by
 obtain ⟨m, t, t', nn, L, R⟩ := I
 refine ⟨m, t, t', nn, L.fr, L.nw, fun p hp => List.mem_cons_of_mem _ hp, L.uniq, rfl, by show 1 ≤ 2000; omega, by simp, fun x hx p hp e => ?_, fun x hx => ?_, fun i o hi => ?_, R, fun d hd => ?_, Nat.zero_le _, L.gens, L.drawn, L.os⟩
 ·rw [List.mem_singleton.mp hx] at e
  have u := L.uniq
  rw [List.map_cons] at u
  exact (List.nodup_cons.mp u).1 (List.mem_map.mpr ⟨p, hp, e⟩)
 ·rw [List.mem_singleton.mp hx]; exact ⟨_, List.mem_cons_self⟩
 ·change (Tr.set 12 .nil 0 _).get i = some o at hi
  rw [Tr.get_set _ 12 .nil 0 (by decide)] at hi
  by_cases e : i = 0
  ·subst e
   rw [if_pos rfl] at hi
   cases hi
   exact ⟨r, _, rfl, List.mem_cons_self, _, nn, rfl, .cons ⟨t, Nat.zero_le _, rfl⟩ (.cons ⟨t', Nat.zero_le _, rfl⟩ .nil)⟩
  ·rw [if_neg e] at hi; exact nomatch hi
 ·rw [hz]
  match d, hd with
  | 0, _ => exact List.mem_cons_self
  | 1, _ => exact List.mem_cons_self
  | 2, _ => exact List.mem_cons_self
  | 3, _ => exact List.mem_cons_self
theorem Inv.ls {j : Nat} (J : Inv c g m news σ s) (hr : g[j]? = some r) (hs : σ.hp.get j = some (srcL a b)) (hH : (c.H.map (·.1)).Nodup) : ∃ t t' nn, LS c.h₀ c.L c.gens c.drawn c.os m ((r, srcO a b t t' nn) :: c.H) s := by
 obtain ⟨ad, ob, p1, q1, vs, nn, rfl, r1⟩ := J.own j _ hs
 rw [hr] at p1; cases p1
 have hv : ∃ t t', vs = #[.int a t, .int b t'] := by
  obtain ⟨l⟩ := vs
  change RelL c.π g _ l at r1
  replace r1 := r1.uncons
  obtain ⟨v1, l, rfl, h1, r1⟩ := r1
  replace r1 := r1.uncons
  obtain ⟨v2, l, rfl, h2, r1⟩ := r1
  obtain rfl := r1.unnil
  obtain ⟨t, _, rfl⟩ := h1
  obtain ⟨t', _, rfl⟩ := h2
  exact ⟨t, t', rfl⟩
 obtain ⟨t, t', rfl⟩ := hv
 refine ⟨t, t', nn, J.fr, fun p hp => ?_, ?_, J.gens, J.drawn, J.os⟩
 ·rcases List.mem_cons.mp hp with rfl | hp
  ·exact J.nw _ q1
  ·exact J.nw p (J.held p hp)
 ·rw [List.map_cons]
  refine List.nodup_cons.mpr ⟨fun hm => ?_, hH⟩
  obtain ⟨p, hp, e⟩ := List.mem_map.mp hm
  exact J.apart r (List.mem_of_getElem? hr) p hp e
theorem Inv.rm (J : Inv c g m news σ s) (hr : g[0]? = some r) {rest : List (Nat × XV)} (hl : σ.loc = loc ++ rest) (hb : loc.all (fun p => lowB p.2) = true) : RelM c.π [r] loc m := fun y x e => by
 have e2 : look y σ.loc = some x := by
  rw [hl]
  clear hl hb
  induction loc with
  | nil => exact nomatch e
  | cons p q ih =>
   change br (Nat.beq p.1 y) (some p.2) (look y q) = some x at e
   show br (Nat.beq p.1 y) (some p.2) (look y (q ++ rest)) = some x
   cases hq : Nat.beq p.1 y with
   | true => rw [hq] at e; exact e
   | false => rw [hq] at e; exact ih e
 obtain ⟨v, h1, h2⟩ := J.loc y x e2
 exact ⟨v, h1, h2.low hr (List.all_eq_true.mp hb _ (look_mem e))⟩
theorem Inv.li (J : Inv c g m news σ s) (hr : g[0]? = some r) (hs : σ.hp.get 0 = some (srcL a b)) (hH : (c.H.map (·.1)).Nodup) {rest : List (Nat × XV)} (hl : σ.loc = loc ++ rest) (hb : loc.all (fun p => lowB p.2) = true) : LI c r a b loc s := by
 obtain ⟨t, t', nn, L⟩ := J.ls hr hs hH
 exact ⟨m, t, t', nn, L, J.rm hr hl hb⟩
theorem look_app {y : Nat} {x : XV} {rest : List (Nat × XV)} : ∀ {loc : List (Nat × XV)}, look y loc = some x → look y (loc ++ rest) = some x
 | [], e => nomatch e
 | p :: q, e => by
  change br (Nat.beq p.1 y) (some p.2) (look y q) = some x at e
  show br (Nat.beq p.1 y) (some p.2) (look y (q ++ rest)) = some x
  cases hq : Nat.beq p.1 y with
  | true => rw [hq] at e; exact e
  | false => rw [hq] at e; exact look_app e
theorem LI.pre {rest : List (Nat × XV)} (I : LI c r a b (loc ++ rest) s) : LI c r a b loc s := by
 obtain ⟨m, t, t', nn, L, R⟩ := I
 exact ⟨m, t, t', nn, L, fun y x e => R y x (look_app e)⟩
theorem LI.swap {H : List (Addr × Obj)} {d : Addr} {o o' : Obj} {h' : Heap} {tk : Nat} (I : LI { c with H := (d, o) :: H } r a b loc s) (hs : Heap.SameBut d s.heap h') (ho : h'.get? d = some o') : LI { c with H := (d, o') :: H } r a b loc { s with heap := h', toks := tk } := by
 obtain ⟨m, t, t', nn, L, R⟩ := I
 have hd := L.nw (d, o) (List.mem_cons_of_mem _ List.mem_cons_self)
 have u := L.uniq
 change (r :: d :: H.map (·.1)).Nodup at u
 obtain ⟨u1, u2⟩ := List.nodup_cons.mp u
 obtain ⟨u3, u4⟩ := List.nodup_cons.mp u2
 refine ⟨m, t, t', nn, ⟨L.fr.change hs hd.2.1 hd.2.2, fun p hp => ?_, u, L.gens, L.drawn, L.os⟩, R⟩
 rcases List.mem_cons.mp hp with rfl | hp
 ·have z := L.nw _ List.mem_cons_self
  exact ⟨(hs.2 _ fun e => u1 (by rw [show r = d from e]; exact List.mem_cons_self)).trans z.1, z.2⟩
 ·rcases List.mem_cons.mp hp with rfl | hp
  ·exact ⟨ho, hd.2⟩
  ·have z := L.nw p (List.mem_cons_of_mem _ (List.mem_cons_of_mem _ hp))
   exact ⟨(hs.2 _ fun e => u3 (List.mem_map.mpr ⟨p, hp, e⟩)).trans z.1, z.2⟩
theorem LI.gone {H : List (Addr × Obj)} {d : Addr} {o : Obj} {h' : Heap} {tk : Nat} (hc : c.H = []) (I : LI { c with H := (d, o) :: H } r a b loc s) (hs : Heap.ExtBut d s.heap h') : LI c r a b loc { s with heap := h', toks := tk } := by
 obtain ⟨m, t, t', nn, L, R⟩ := I
 have hd := L.nw (d, o) (List.mem_cons_of_mem _ List.mem_cons_self)
 have hd2 : c.h₀.get? d = none := hd.2.2
 have u := L.uniq
 change (r :: d :: H.map (·.1)).Nodup at u
 obtain ⟨u1, u2⟩ := List.nodup_cons.mp u
 refine ⟨m, t, t', nn, ⟨⟨L.fr.ns.at' fun o e => hs _ o hd.2.1.symm e, fun b o e => hs b o (fun q => by rw [q, hd2] at e; cases e) (L.fr.keep b o e), L.fr.above⟩, fun p hp => ?_, ?_, L.gens, L.drawn, L.os⟩, R⟩
 ·rw [hc] at hp
  obtain rfl := List.mem_singleton.mp hp
  have z := L.nw _ List.mem_cons_self
  exact ⟨hs _ _ (fun e => u1 (by rw [show r = d from e]; exact List.mem_cons_self)) z.1, z.2⟩
 ·rw [hc]; simp
end
end
end Mine
set_option maxRecDepth 100000
set_option genInjectivity false
set_option genSizeOf false
namespace Mine
open PySem PySem.W PySem.Calls PyProof.Rows PySem.SeqAt PyProof.V PySem.Spec
section
theorem all40 (P : Params) : AllOk (HK P) 40 := all_ok (facts P) 40 40 (Nat.le_refl _)
structure Pl (c : Cx) (A : Around) (env : Env) (ns : Nk) : Prop where
 B : Base c
 G : Globs c
 S : Stat c (HK c.w.params)
 Ev : EnvOk c env
 hn : env.scope.names = ns
 hA : AOk A 304
 hg : A.guards = some []
 hz : c.π = zPi
 T : Start c.w c.h₀
 hH : (c.H.map (·.1)).Nodup
section
variable {c : Cx} {A : Around} {env : Env} {ns : Nk} {g : Ow} {σ : XSt} {s : Shared} {r : Addr} {a b : Int} {loc : List (Nat × XV)} {mm : Str → Option Value} {nw : List (Addr × Obj)}
theorem Pl.put (p : Pl c A env ns) {H : List (Addr × Obj)} (h : (H.map (·.1)).Nodup) : Pl { c with H := H } A env ns :=
 ⟨⟨p.B.sys, p.B.lim⟩, ⟨p.G.ns⟩, ⟨p.S.kin, p.S.cls, p.S.fns⟩, ⟨p.Ev.kind, p.Ev.loc, p.Ev.glb, p.Ev.blt⟩, p.hn, p.hA, p.hg, p.hz, p.T, h⟩
theorem stmt_go (p : Pl c A env ns) {x : X} {st : Stmt} {rest : List Stmt} {Q : Flow → Shared → Prop} (m : MS ns x st) {P : XSt → Prop} (h : (ev tab 40).s x σ (kP fun f σ => f = .next ∧ P σ) = true) (J : Inv c g mm nw σ s)
  (hk : ∀ σ' g' m' nw' s', P σ' → Grow g g' → Inv c g' m' nw' σ' s' → wpN (model pg c.w) A (execs rest env) Q E0 s') : wpN (model pg c.w) A (execs (st :: rest) env) Q E0 s := by
 refine wpN_cons (wpN.of (wpAny_mono ((all40 c.w.params).s h m p.B p.G p.S p.Ev p.hn (p.hA.le (by omega)) ⟨mm, nw, J⟩) (fun f s' q => ?_) fun _ _ e => e))
 refine Po.elim q fun fl σ' g' h1 G1 rf J' => ?_
 obtain ⟨rfl, hp⟩ := kP_is h1
 obtain ⟨m', nw', J'⟩ := J'
 cases f with
 | next => exact hk σ' g' m' nw' s' hp G1 J'
 | _ => exact rf.elim
theorem next_go {M : Model} {st : Stmt} {rest : List Stmt} {Q : Flow → Shared → Prop} {P : Shared → Prop} (h : wpN M A (exec st env) (fun f s' => f = .next ∧ P s') E0 s) (hk : ∀ s', P s' → wpN M A (execs rest env) Q E0 s') : wpN M A (execs (st :: rest) env) Q E0 s :=
 wpN_cons (wpN_mono h (fun f s' z => by obtain ⟨rfl, z⟩ := z; exact hk s' z) fun _ _ e => e)
theorem notN (p : Pl c A env ns) {f : Nat} {fa : Addr} {fi : FI} (e1 : tab.globs.get f = some (.sta fa)) (e2 : tab.funs.get fa = some fi) {as : X} {te : Expr} (m : ME ns (notC f as) te) (J : Inv c g mm nw σ s)
  {PL : List XV → XSt → Prop} (h : (ev tab 40).es as σ (lP PL) = true) {P : Shared → Prop}
  (hcall : ∀ vs xs σ' g' m' nw' s', PL xs σ' → Grow g g' → RelL c.π g' xs vs → Inv c g' m' nw' σ' s' → wpN (model pg c.w) A (call (.ref fa) vs) (fun v s'' => v = .bool true ∧ P s'') E0 s') :
  wpN (model pg c.w) A (isTrue te env (eval te env)) (fun t s'' => t = false ∧ P s'') E0 s := by
 obtain ⟨ce, p3, rfl, m1⟩ := m.view
 show wpN _ A (isTrue ce env (eval ce env) >>= fun t => pure (!t)) _ _ s
 refine wpN_bind (wpN_mono (Q := fun t s'' => t = true ∧ P s'') (E := E0) ?_ (fun t s'' q => wpN_pure ⟨by rw [q.1]; rfl, q.2⟩) fun _ _ e => e)
 obtain ⟨fe, es0, p2, rfl, m0, hat, m2⟩ := m1.view
 obtain ⟨pf, rfl, hl, hd⟩ := m0.view
 show wpN _ A (do let v ← eval (.Call (.Name (nm f) pf) es0 [] p2) env; standAt p2; holding [v] (truthy v)) _ _ s
 refine wpN_bind ?_
 have e0 : eval (.Call (.Name (nm f) pf) es0 [] p2) env = (do callWith p2 (← eval (.Name (nm f) pf) env) [] (backTo p2 (starEach es0 env)) (backToKw p2 (keywordEach [] env))) := rfl
 rw [e0]
 refine wpN_bindA (glb_at e1 hl hd p.G p.Ev p.hn ⟨mm, nw, J⟩ fun u ru => ?_)
 have : u = .ref fa := ru
 subst this
 refine callArgsN (all40 c.w.params).es p.B p.G p.S p.Ev p.hn (p.hA.le (by omega)) ⟨mm, nw, J⟩ m2 h (fun hp hk => keeps_K (p.S.fns _ fi e2) _ (p.S.kin.keeps hk)) fun vs xs σ1 g1 s1 h1 G1 r1 I1 => ?_
 obtain ⟨m1, nw1, J1⟩ := I1
 refine wpN_mono (hcall vs xs σ1 g1 m1 nw1 s1 (lP_is h1) G1 r1 J1) (fun v s2 q => ?_) fun _ _ e => e
 obtain ⟨rfl, q⟩ := q
 exact wpN.of (wpAny_bind (wpAny_standAt (wpAny_holding (wpAny_truthy_bool ⟨rfl, q⟩))))
theorem ifN (p : Pl c A env ns) {x : X} {st : Stmt} (m : MS ns (.ift x retF .nil) st) {P : Shared → Prop}
  (h : ∀ te, ME ns x te → wpN (model pg c.w) A (isTrue te env (eval te env)) (fun t s'' => t = false ∧ P s'') E0 s) : wpN (model pg c.w) A (exec st env) (fun f s'' => f = .next ∧ P s'') E0 s := by
 obtain ⟨te, bs, ds, ps, rfl, m1, m2, m3⟩ := m.view
 obtain rfl : ds = [] := m3.view
 refine wpN_If (wpN_mono (h _ m1) (fun t s'' q => ?_) fun _ _ e => e)
 obtain ⟨rfl, q⟩ := q
 exact wpN.of (wpAny_execs_nil ⟨rfl, q⟩)
theorem stateAt (p : Pl c A env ns) {cs : List (List Pt)} {R m fl fr nr tl : Int} {q j : Nat} {vs : List Value} {rest : List (Nat × XV)} (J : Inv c g mm nw σ s) (hr : g[0]? = some r) (hs : σ.hp.get 0 = some (srcL a b)) (hj : j ≠ 0)
  (hw : σ.hp.get j = some (.list [nX fl, nX fr, nX nr, nX tl])) (rl : RelL c.π g [nX R, .str q, nX m, .own j] vs) (hl : σ.loc = loc ++ rest) (hb : loc.all (fun p => lowB p.2) = true)
  (run : runC cs R q = true) (hc : ∀ d, d < 4 → piOf m nr fr fl tl d ∈ nthL cs d) :
  wpN (model pg c.w) A (call (.ref 1331) vs) (fun v s'' => v = .bool true ∧ LI c r a b loc s'') E0 s := by
 obtain ⟨t, t', nn, L⟩ := J.ls hr hs p.hH
 have M := J.rm hr hl hb
 refine J.listE hw ?_; intro ad its n1 p1 q1 r1
 have hv : ∃ t1 t2 t3 t4, its = #[.int fl t1, .int fr t2, .int nr t3, .int tl t4] := by
  obtain ⟨l⟩ := its
  change RelL c.π g _ l at r1
  replace r1 := r1.uncons
  obtain ⟨v1, l, rfl, h1, r1⟩ := r1
  replace r1 := r1.uncons
  obtain ⟨v2, l, rfl, h2, r1⟩ := r1
  replace r1 := r1.uncons
  obtain ⟨v3, l, rfl, h3, r1⟩ := r1
  replace r1 := r1.uncons
  obtain ⟨v4, l, rfl, h4, r1⟩ := r1
  obtain rfl := r1.unnil
  obtain ⟨t1, _, rfl⟩ := h1
  obtain ⟨t2, _, rfl⟩ := h2
  obtain ⟨t3, _, rfl⟩ := h3
  obtain ⟨t4, _, rfl⟩ := h4
  exact ⟨t1, t2, t3, t4, rfl⟩
 obtain ⟨t1, t2, t3, t4, rfl⟩ := hv
 have hvs : ∃ t5 t6 t7, vs = [.int R t5, .str (nm q) t6, .int m t7, .ref ad] := by
  replace rl := rl.uncons
  obtain ⟨v1, l, rfl, h1, rl⟩ := rl
  replace rl := rl.uncons
  obtain ⟨v2, l, rfl, h2, rl⟩ := rl
  replace rl := rl.uncons
  obtain ⟨v3, l, rfl, h3, rl⟩ := rl
  replace rl := rl.uncons
  obtain ⟨v4, l, rfl, h4, rl⟩ := rl
  obtain rfl := rl.unnil
  obtain ⟨t1, _, rfl⟩ := h1
  obtain ⟨t2, _, rfl⟩ := h2
  obtain ⟨t3, _, rfl⟩ := h3
  obtain rfl := own_of p1 h4
  exact ⟨t1, t2, t3, rfl⟩
 obtain ⟨t5, t6, t7, rfl⟩ := hvs
 have z := J.nw _ q1
 refine wpN_mono (stateT p.T p.hA p.hg L run hc z.1 z.2.1 z.2.2 fun x hx => ?_) (fun v s'' q => ⟨q.1, mm, t, t', nn, q.2, M⟩) fun _ _ e => e
 rcases List.mem_cons.mp hx with rfl | hx
 ·exact own_ne J (Ne.symm hj) hr p1
 ·exact J.apart ad (List.mem_of_getElem? p1) x hx
end
end
end Mine
set_option maxRecDepth 100000
set_option genInjectivity false
set_option genSizeOf false
namespace Mine
open PySem PySem.W PySem.Calls PyProof.Rows PySem.SeqAt PyProof.V PySem.Spec
section
section
variable {c : Cx} {A : Around} {env : Env} {ns : Nk} {g : Ow} {σ : XSt} {s : Shared} {r : Addr} {a b R : Int} {mm : Str → Option Value} {nw : List (Addr × Obj)}
noncomputable abbrev cH (c : Cx) (H : List (Addr × Obj)) : Cx := { c with H := H }
noncomputable def BodyOk (c : Cx) (A : Around) (env : Env) (r : Addr) (R : Int) (body : List Stmt) (q : Nat) : Prop := ∀ (H : List (Addr × Obj)) (a b : Int) (s : Shared), (H.map (·.1)).Nodup → LI (cH c H) r a b (lv2 R q) s →
 wpN (model pg c.w) A (execs body env) (fun f s' => f = .next ∧ ∃ a' b', LI (cH c H) r a' b' (lv2 R q) s') E0 s
theorem relStr {π : Pi} {g : Ow} : ∀ {qs : List Nat} {vs : List Value}, RelL π g (qs.map XV.str) vs → RelL π [] (qs.map XV.str) vs
 | [], _, h => by cases h; exact .nil
 | q :: qs, _, h => by
  cases h with
  | cons h1 h2 => exact .cons h1 (relStr h2)
theorem loopN (p : Pl c A env ns) (hc : c.H = []) {l I : Addr} {its : Array Value} {nl : Nat} {te : Expr} {body : List Stmt} (mt : MT ns (.loc 47) te) {qs : List Nat} (hq : RelL c.π [] (qs.map XV.str) its.toList)
  (hb : ∀ q ∈ qs, BodyOk c A env r R body q) (hne : I ≠ l) : ∀ (n i : Nat) (o : Obj) (a b : Int) (s : Shared), i + n = qs.length → o.cls = .type "list_iterator" → o.data = .fields #[.ref l, .int i 0] → LI (cH c [(I, o), (l, listOf its nl)]) r a b (lv1 R) s →
  codeN (model pg c.w) A (.forLoop te (.ref I) body [] env) (fun r' s' => match r' with | .ok f => f = .next ∧ ∃ a b, LI c r a b (lv1 R) s' | .error _ => False) s := by
 have hlen : its.size = qs.length := by have := hq.length; rw [List.length_map, Array.length_toList] at this; exact this.symm
 intro n
 induction n with
 | zero =>
  intro i o a b s hi hoc hod J
  obtain ⟨m, t, t', nn, L, M⟩ := id J
  have hI : s.heap.IsListIter I l i := ⟨o, (L.nw (I, o) (List.mem_cons_of_mem _ List.mem_cons_self)).1, hoc, hod⟩
  have hl : s.heap.IsList l its := ⟨_, (L.nw (l, listOf its nl) (List.mem_cons_of_mem _ (List.mem_cons_of_mem _ List.mem_cons_self))).1, rfl, nl, rfl⟩
  refine forTurnN (isLoc_is mt rfl _) (wpAny_pyNext_list_end p.hA.hd hI hl (by rw [Array.getElem?_eq_none_iff]; omega) fun h' hb' => ?_)
  exact ⟨rfl, a, b, J.gone (tk := s.toks) hc hb'⟩
 | succ n ih =>
  intro i o a b s hi hoc hod J
  obtain ⟨m, t, t', nn, L, M⟩ := id J
  have hI : s.heap.IsListIter I l i := ⟨o, (L.nw (I, o) (List.mem_cons_of_mem _ List.mem_cons_self)).1, hoc, hod⟩
  have hl : s.heap.IsList l its := ⟨_, (L.nw (l, listOf its nl) (List.mem_cons_of_mem _ (List.mem_cons_of_mem _ List.mem_cons_self))).1, rfl, nl, rfl⟩
  have hlt : i < qs.length := by omega
  obtain ⟨v, hv, rv⟩ := hq.get (i := i) (x := .str qs[i]) (by rw [List.getElem?_map, List.getElem?_eq_getElem hlt]; rfl)
  refine forTurnN (isLoc_is mt rfl _) (wpAny_pyNext_list_item hI hl (x := v) (by simpa using hv) fun h' hit' hs => ?_)
  obtain ⟨o', ho', hc', hd'⟩ := hit'
  have J1 : LI (cH c [(I, o'), (l, listOf its nl)]) r a b (lv1 R) { s with heap := h' } := J.swap (tk := s.toks) hs ho'
  have hnd : (([(I, o'), (l, listOf its nl)] : List (Addr × Obj)).map (·.1)).Nodup := by simp [hne]
  have p1 := p.put hnd
  obtain ⟨m1, t1, t1', nn1, K1⟩ := J1.inv p1.hz
  refine wpAny_mono ((all40 c.w.params).a (c := cH c [(I, o'), (l, listOf its nl)]) (k := uP fun σ => σ = sA a b (lv2 R qs[i])) (by rw [eq_as]; exact uP_mk rfl) mt p1.B p1.G p1.S p1.Ev p1.hn (p1.hA.le (by omega)) ⟨_, _, K1⟩ (show RelV c.π [r] (.str qs[i]) v from rv)) (fun _ s2 q => ?_) fun _ _ e => e
  obtain ⟨_, σ2, g2, h2, G2, _, m2, nw2, K2⟩ := q
  obtain rfl := uP_is h2
  have J2 : LI (cH c [(I, o'), (l, listOf its nl)]) r a b (lv2 R qs[i]) s2 := K2.li (G2.get rfl) rfl hnd (List.append_nil _).symm rfl
  refine wpN_mono (hb _ (List.getElem_mem hlt) _ _ _ _ hnd J2) (fun f s3 q => ?_) fun _ _ e => e
  obtain ⟨rfl, a', b', J3⟩ := q
  exact ih (i + 1) o' a' b' s3 (by omega) hc' hd' (J3.pre (loc := lv1 R) (rest := [(47, .str qs[i])]))
theorem forN (p : Pl c A env ns) (hc : c.H = []) {it : X} {st : Stmt} {bX : X} (m : MS ns (.for_ (.loc 47) it bX) st) (J : Inv c g mm nw σ s) {qs : List Nat} {j : Nat} {a b : Int} {rest : List (Nat × XV)} (hr : g[0]? = some r) (hj : j ≠ 0)
  (h : (ev tab 40).e it σ (vP fun v σ' => v = .own j ∧ σ'.hp.get j = some (.list (qs.map XV.str)) ∧ σ'.hp.get 0 = some (srcL a b) ∧ σ'.loc = lv1 R ++ rest) = true)
  (hb : ∀ body, MSs ns bX body → ∀ q ∈ qs, BodyOk c A env r R body q) :
  wpN (model pg c.w) A (exec st env) (fun f s' => f = .next ∧ ∃ a b, LI c r a b (lv1 R) s') E0 s := by
 obtain ⟨te, ie, body, pos, rfl, mt, mi, ms⟩ := m.view
 refine wpN_For (folded_no mi env) (wpAny_mono ((all40 c.w.params).e h mi p.B p.G p.S p.Ev p.hn (p.hA.le (by omega)) ⟨_, _, J⟩) (fun v s1 q => ?_) fun _ _ e => e)
 obtain ⟨xv, σ1, g1, h1, G1, r1, m1, nw1, K⟩ := q
 obtain ⟨rfl, e1, e2, e3⟩ := vP_is h1
 refine K.listE e1 ?_; intro l its nl p1 q1 r3
 obtain rfl := own_of p1 r1
 have hr1 := G1.get hr
 obtain ⟨t, t', nn, L⟩ := K.ls hr1 e2 p.hH
 have M := K.rm (loc := lv1 R) hr1 e3 rfl
 have zl := K.nw _ q1
 refine wpAny_pyIter_list (K.nw.isList q1) ?_
 have hrl : r ≠ l := own_ne K (Ne.symm hj) hr1 p1
 have ltr := Heap.lt_size (L.nw _ List.mem_cons_self).1
 have ltl := Heap.lt_size zl.1
 have grow : ∀ b o, s1.heap.get? b = some o → (s1.heap.push { cls := .type "list_iterator", data := .fields #[.ref l, .int 0 0] }).get? b = some o := fun b o e => Heap.get?_push_of_some _ e
 refine loopN p hc mt (qs := qs) (its := its) (nl := nl) (I := s1.heap.objs.size) ?_ (fun q hq => hb _ ms q hq) (Nat.ne_of_gt ltl) qs.length 0 { cls := .type "list_iterator", data := .fields #[.ref l, .int 0 0] } a b _ (Nat.zero_add _) rfl rfl ?_
 ·exact relStr r3
 ·refine ⟨m1, t, t', nn, ⟨L.fr.grownK grow, fun x hx => ?_, ?_, L.gens, L.drawn, L.os⟩, M⟩
  ·rcases List.mem_cons.mp hx with rfl | hx
   ·have z := L.nw _ List.mem_cons_self
    exact ⟨grow _ _ z.1, z.2⟩
   ·rcases List.mem_cons.mp hx with rfl | hx
    ·exact ⟨Heap.get?_push_size _ rfl, Ne.symm (Nat.ne_of_lt L.fr.ns.lt), none_at (h := s1.heap) fun b o e => L.fr.keep b o e⟩
    ·obtain rfl := List.mem_singleton.mp hx
     exact ⟨grow _ _ zl.1, zl.2⟩
  ·show (r :: s1.heap.objs.size :: l :: []).Nodup
   simp only [List.nodup_cons, List.mem_cons, List.not_mem_nil, or_false, not_or, not_false_eq_true, and_true, List.nodup_nil]
   exact ⟨⟨Nat.ne_of_lt ltr, hrl⟩, Nat.ne_of_gt ltl⟩
end
end
end Mine
set_option maxRecDepth 100000
set_option genInjectivity false
set_option genSizeOf false
namespace Mine
open PySem PySem.W PySem.Calls PyProof.Rows PySem.SeqAt PyProof.V PySem.Spec
section
structure Runs (R : Int) : Prop where
 e : runC (cs1 8 4 (-1) 16 21) R 32 = true
 o : ∀ q ∈ [37, 39, 35], runC (cs1 3 4 (-5) 16 21) R q = true
 th : runTh R = true
 st : ∀ q ∈ [32, 36, 35, 39, 37, 40, 41, 30], runC cases4 R q = true
theorem at_state : tab.globs.get 297 = some (.sta 1331) := by kernel_rfl
theorem at_thrice : tab.globs.get 298 = some (.sta 1336) := by kernel_rfl
theorem fi_state : tab.funs.get 1331 = some fi_1331 := by kernel_rfl
theorem fi_thrice : tab.funs.get 1336 = some fi_1336 := by kernel_rfl
noncomputable def flagsI : List Int := [16, 16, 16, 24, 17, 18, 20, 4, 1, 0]
noncomputable def farI : List Int := [-1, -1, -3, -4, -6, 0, 16, 40]
noncomputable def nearI (m : Int) : List Int := [0, 1, m, m + 1, m + 2, -1]
theorem cs1_at (m n f g t : Int) : ∀ d, d < 4 → piOf m n f g t d ∈ nthL (cs1 m n f g t) d := fun d hd => by
 match d, hd with
 | 0, _ => exact List.mem_cons_self
 | 1, _ => exact List.mem_cons_self
 | 2, _ => exact List.mem_cons_self
 | 3, _ => exact List.mem_cons_self
theorem cases4_at {m n f g t : Int} (h1 : 0 ≤ m) (h2 : m < 9) (h3 : n ∈ nearI m) (h4 : f ∈ farI) (h5 : g ∈ flagsI) (h6 : 0 ≤ t) (h7 : t < 60) : ∀ d, d < 4 → piOf m n f g t d ∈ nthL cases4 d := fun d hd => by
 match d, hd with
 | 0, _ =>
  obtain ⟨k, rfl⟩ := Int.eq_ofNat_of_zero_le h1
  exact List.mem_flatMap.mpr ⟨k, List.mem_range.mpr (by omega), List.mem_map.mpr ⟨n, h3, rfl⟩⟩
 | 1, _ => exact List.mem_map.mpr ⟨f, by simp [farI] at h4 ⊢; omega, rfl⟩
 | 2, _ => exact List.mem_map.mpr ⟨g, by simp [flagsI] at h5 ⊢; omega, rfl⟩
 | 3, _ =>
  obtain ⟨k, rfl⟩ := Int.eq_ofNat_of_zero_le h6
  exact List.mem_map.mpr ⟨k, List.mem_range.mpr (by omega), rfl⟩
section
variable {c : Cx} {A : Around} {env : Env} {ns : Nk} {s : Shared} {r : Addr} {R : Int}
theorem body3 (p : Pl c A env ns) (hR : Runs R) {body : List Stmt} (m : MSs ns (.cons (.ift (notC 297 lw_3a) retF .nil) .nil) body) : ∀ q ∈ [37, 39, 35], BodyOk c A env r R body q := by
 intro q hq H a b s hH J
 have p1 := p.put hH
 obtain ⟨m0, t, t', nn, K⟩ := J.inv p1.hz
 obtain ⟨st1, r1, rfl, m1, m2⟩ := m.view
 obtain rfl : r1 = [] := m2.view
 refine next_go (ifN p1 m1 (P := fun s'' => LI (cH c H) r a b (lv2 R q) s'') fun te me => notN p1 at_state fi_state me K (PL := fun xs σ => xs = [nX R, .str q, nX 3, .own 1] ∧ σ = sB a b [nX 16, nX (-5), nX 4, nX 21] (lv2 R q)) (by rw [eq_3a]; exact lP_mk ⟨rfl, rfl⟩) fun vs xs σ' g' m' nw' s' hp G rl K' => ?_) fun s' z => ?_
 ·obtain ⟨rfl, rfl⟩ := hp
  exact stateAt p1 (loc := lv2 R q) (rest := []) (j := 1) K' (G.get rfl) rfl (by decide) rfl rl (List.append_nil _).symm rfl (hR.o q hq) (cs1_at _ _ _ _ _)
 ·exact wpN.of (wpAny_execs_nil ⟨rfl, a, b, z⟩)
theorem body5 (p : Pl c A env ns) (hR : Runs R) {body : List Stmt} (m : MSs ns lw_5b body) : ∀ q ∈ [32, 36, 35, 39, 37, 40, 41, 30], BodyOk c A env r R body q := by
 intro q hq H a b s hH J
 have p1 := p.put hH
 obtain ⟨m0, t, t', nn, K⟩ := J.inv p1.hz
 replace m := m.view; obtain ⟨st1, r1, rfl, m1, m⟩ := m
 replace m := m.view; obtain ⟨st2, r2, rfl, m2, m⟩ := m
 replace m := m.view; obtain ⟨st3, r3, rfl, m3, m⟩ := m
 replace m := m.view; obtain ⟨st4, r4, rfl, m4, m⟩ := m
 replace m := m.view; obtain ⟨st5, r5, rfl, m5, m⟩ := m
 obtain rfl : r5 = [] := m.view
 clear J
 refine stmt_go p1 m1 (P := fun σ => ∃ d a' b', 0 ≤ d ∧ d < 9 ∧ σ = sA a' b' (lv3 R q d)) (by rw [eq_50]; exact takeR_ok (by omega) fun d a' b' h1 h2 => kP_mk ⟨rfl, d, a', b', h1, h2, rfl⟩) K fun σ1 g1 k1 w1 s1 z G1 K1 => ?_
 obtain ⟨d, a1, b1, d0, d9, rfl⟩ := z
 obtain ⟨k1', u1, u1', v1, K1'⟩ := (K1.li (loc := lv3 R q d) (G1.get rfl) rfl hH (List.append_nil _).symm rfl).inv p1.hz
 clear K1 K
 refine stmt_go p1 m2 (P := fun σ => ∃ f a' b', f ∈ flagsI ∧ σ = sB a' b' flagsL (lv4 R q d f)) ?_ K1' fun σ2 g2 k2 w2 s2 z G2 K2 => ?_
 ·rw [eq_51]
  refine takeR_ok (by omega) fun n a' b' h1 h2 => ?_
  refine atX_ok (xs := flagsL) h1 (show n < 10 from h2) (by decide) fun v hv => ?_
  obtain ⟨f, hf, rfl⟩ := List.mem_map.mp (show v ∈ flagsI.map nX from hv)
  exact kP_mk ⟨rfl, f, a', b', hf, rfl⟩
 obtain ⟨fl, a2, b2, hfl, rfl⟩ := z
 obtain ⟨k2', u2, u2', v2, K2'⟩ := (K2.li (loc := lv4 R q d fl) (G2.get rfl) rfl hH (List.append_nil _).symm rfl).inv p1.hz
 clear K2 K1'
 refine stmt_go p1 m3 (P := fun σ => ∃ f a' b', f ∈ farI ∧ σ = sB a' b' farL (lv5 R q d fl f)) ?_ K2' fun σ3 g3 k3 w3 s3 z G3 K3 => ?_
 ·rw [eq_52]
  refine takeR_ok (by omega) fun n a' b' h1 h2 => ?_
  refine atX_ok (xs := farL) h1 (show n < 8 from h2) (by decide) fun v hv => ?_
  obtain ⟨f, hf, rfl⟩ := List.mem_map.mp (show v ∈ farI.map nX from hv)
  exact kP_mk ⟨rfl, f, a', b', hf, rfl⟩
 obtain ⟨fr, a3, b3, hfr, rfl⟩ := z
 obtain ⟨k3', u3, u3', v3, K3'⟩ := (K3.li (loc := lv5 R q d fl fr) (G3.get rfl) rfl hH (List.append_nil _).symm rfl).inv p1.hz
 clear K3 K2'
 refine stmt_go p1 m4 (P := fun σ => ∃ n t a' b', n ∈ nearI d ∧ 0 ≤ t ∧ t < 60 ∧ σ = sC a' b' (nearL d) [nX fl, nX fr, nX n, nX t] (lv5 R q d fl fr ++ [(267, .own 2)])) ?_ K3' fun σ4 g4 k4 w4 s4 z G4 K4 => ?_
 ·rw [eq_53]
  refine takeR_ok (by omega) fun n a' b' h1 h2 => ?_
  refine atX_ok (xs := nearL d) h1 (show n < 6 from h2) (show 6 < 1000000 by decide) fun v hv => ?_
  obtain ⟨f, hf, rfl⟩ := List.mem_map.mp (show v ∈ (nearI d).map nX from hv)
  refine takeR_ok (by omega) fun t a'' b'' h3 h4 => ?_
  exact kP_mk ⟨rfl, f, t, a'', b'', hf, h3, h4, rfl⟩
 obtain ⟨nr, tl, a4, b4, hnr, t0, t60, rfl⟩ := z
 have hr4 : g4[0]? = some r := G4.get rfl
 refine next_go (ifN p1 m5 (P := fun s'' => LI (cH c H) r a4 b4 (lv2 R q) s'') fun te me => notN p1 at_state fi_state me K4 (PL := fun xs σ => xs = [nX R, .str q, nX d, .own 2] ∧ σ = sC a4 b4 (nearL d) [nX fl, nX fr, nX nr, nX tl] (lv5 R q d fl fr ++ [(267, .own 2)])) (by rw [show lv5 R q d fl fr ++ [(267, .own 2)] = [(301, .own 0), (2, nX R), (47, .str q), (18, nX d), (12, nX fl), (264, nX fr), (267, .own 2)] from rfl, eq_5a _ _ _ _ _ _ _ .none 0]; exact lP_mk ⟨rfl, rfl⟩) fun vs xs σ' g' m' nw' s' hp G rl K' => ?_) fun s' z => ?_
 ·obtain ⟨rfl, rfl⟩ := hp
  exact stateAt p1 (loc := lv2 R q) (rest := [(18, nX d), (12, nX fl), (264, nX fr), (267, .own 2)]) (j := 2) K' (G.get hr4) rfl (by decide) rfl rl rfl rfl (hR.st q hq) (cases4_at d0 d9 hnr hfr hfl t0 t60)
 ·exact wpN.of (wpAny_execs_nil ⟨rfl, a4, b4, z⟩)
end
end
end Mine
set_option maxRecDepth 100000
set_option genInjectivity false
set_option genSizeOf false
namespace Mine
open PySem PySem.W PySem.Calls PyProof.Rows PySem.SeqAt PyProof.V PySem.Spec
section
theorem fi_pool : tab.funs.get 1277 = some fi_1277 := by kernel_rfl
theorem at_pool : tab.globs.get 294 = some (.sta 1277) := by kernel_rfl
section
variable {c : Cx} {A : Around} {env : Env} {ns : Nk} {g : Ow} {s : Shared} {mm : Str → Option Value} {nw : List (Addr × Obj)} {x : Addr} {items : Array Value}
theorem eAt {Q : Value → Shared → Prop} {X : X} {e : Expr} {V : XV} {σ σ' : XSt} (B : Base c) (G : Globs c) (S : Stat c (HK c.w.params)) (Ev : EnvOk c env) (hn : env.scope.names = ns) (hA : AOk A 40) (h : (ev tab 40).e X σ (vP fun v τ => v = V ∧ τ = σ') = true) (m : ME ns X e) (I : Is c g σ s)
  (f : ∀ v s' g', RelV c.π g' V v → Grow g g' → Is c g' σ' s' → Q v s') : wpAny (model pg c.w) A (eval e env) Q E0 s := by
 refine Po.go ((all40 c.w.params).e h m B G S Ev hn hA I) fun v s1 xv σ1 g1 h1 G1 r1 I1 => ?_
 obtain ⟨rfl, rfl⟩ := vP_is h1
 exact f v s1 g1 r1 G1 I1
theorem pool0 (B : Base c) (G : Globs c) (S : Stat c (HK c.w.params)) (Ev : EnvOk c env) (hn : env.scope.names = ns) (hA : AOk A 40) (hx : c.h₀.IsList x items) (hi : ∀ v ∈ items.toList, ∃ (i : Int) (t : Tok), v = .int i t) {st : Stmt} (m : MS ns (.asg (.loc 307) (.ife pl_t (.sub (.loc 305) (kX 0)) (kX 0))) st) (J : Inv c g mm nw (sP0 x) s) :
  wpAny (model pg c.w) A (exec st env) (fun f s' => f = .next ∧ ∃ v g' m' nw', Grow g g' ∧ Inv c g' m' nw' (sP2 x v) s') E0 s := by
 have A40 := all40 c.w.params
 obtain ⟨te, ae, ps, rfl, mt, me, hp⟩ := m.view
 obtain ⟨tt, bb, oo, pi, rfl, m1, m2, m3⟩ := me.view
 have hcp : isComp (.IfExp tt bb oo pi) = false := rfl
 obtain ⟨r, er, hr⟩ := rest_asg (E := E0) A40.a B G S Ev hn hA mt me hp (swaps_none hcp) (p := ps)
 rw [er]
 refine wpAny_bind (wpAny_standAt (wpAny_bind ?_))
 have fin : ∀ {i : Int} {v : Value} {g1 : Ow} {s1 : Shared}, RelV c.π g1 (nX i) v → Grow g g1 → Is c g1 (sP1 x) s1 → wpAny (model pg c.w) A (assignStores env v r [assign te env]) (fun f s' => f = .next ∧ ∃ v g' m' nw', Grow g g' ∧ Inv c g' m' nw' (sP2 x v) s') E0 s1 := by
  intro i v g1 s1 rv G1 K
  refine wpAny_mono (hr (k := uP fun σ => σ = sP2 x i) (by rw [eq_p1a]; exact uP_mk rfl) rv K) (fun f s2 q => ?_) fun _ _ e => e
  obtain ⟨rfl, σ', g', h', G', m', nw', K'⟩ := q
  obtain rfl := uP_is h'
  exact ⟨rfl, i, g', m', nw', G1.trans G', K'⟩
 obtain ⟨e1, e2, pc, rfl, n1, n2⟩ := m1.view
 refine wpAny_IfExp (wpAny_isTrue_Compare1 (eAt B G S Ev hn hA (V := .sta x) (σ' := sP0 x) (by rw [eq_p0n]; exact vP_mk ⟨rfl, rfl⟩) n1 ⟨_, _, J⟩ fun v s1 g1 r1 G1 I1 => ?_) (marks_no n2 _))
 obtain rfl : v = .ref x := r1
 refine eAt B G S Ev hn hA (V := .own 0) (σ' := sP1 x) (by rw [eq_p0l]; exact vP_mk ⟨rfl, rfl⟩) n2 I1 fun v s2 g2 r2 G2 I2 => ?_
 obtain ⟨m2', nw2, K2⟩ := id I2
 obtain ⟨l, its, n1', p1, q1, r3⟩ := K2.list (i := 0) (xs := []) rfl
 obtain rfl := own_of p1 r2
 have hz : its.size = 0 := by have := r3.length; rw [Array.length_toList] at this; exact this.symm
 have hx2 : s2.heap.IsList x items := hx.at fun o e => K2.fr.keep x o e
 have ne : ∃ b : Bool, RcNeAt A s2 (.ref x) (.ref l) b ∧ (b = true → items.size ≠ 0) := by
  by_cases h0 : items.size = 0
  ·exact ⟨_, RcNeAt.lists (e := fun _ => true) hx2 (K2.nw.isList q1) (by omega) hA.room (fun j h1 _ => by omega), by rw [h0]; exact fun h => nomatch h⟩
  ·exact ⟨true, RcNeAt.lists_lengths hx2 (K2.nw.isList q1) (by simp; omega) hA.room, fun _ => h0⟩
 obtain ⟨b, hb, hb0⟩ := ne
 refine hb _ _ _ _ (wpAny_truthy_bool ?_)
 cases b with
 | false =>
  show wpAny _ A (eval _ env) _ _ _
  refine eAt B G S Ev hn hA (V := nX 0) (σ' := sP1 x) (by rw [eq_p1z]; exact vP_mk ⟨rfl, rfl⟩) m3 I2 fun v s3 g3 r3 G3 I3 => ?_
  exact fin r3 ((G1.trans G2).trans G3) I3
 | true =>
  show wpAny _ A (eval _ env) _ _ _
  obtain ⟨b1, b2, pb, rfl, o1, o2⟩ := m2.view
  refine Subscript_ (eAt B G S Ev hn hA (V := .sta x) (σ' := sP1 x) (by rw [eq_p1n]; exact vP_mk ⟨rfl, rfl⟩) o1 I2 fun v s3 g3 r4 G3 I3 => ?_)
  obtain rfl : v = .ref x := r4
  refine eAt B G S Ev hn hA (V := nX 0) (σ' := sP1 x) (by rw [eq_p1z]; exact vP_mk ⟨rfl, rfl⟩) o2 I3 fun v s4 g4 r5 G4 I4 => ?_
  obtain ⟨t0, _, rfl⟩ := r5
  refine Is.el I4 ?_; intro m4 nw4 K4
  have hx4 : s4.heap.IsList x items := hx.at fun o e => K4.fr.keep x o e
  have h0 := hb0 rfl
  obtain ⟨i, t, hv⟩ := hi items[0] (by simp)
  refine tail_any hx4.typeIs slot_list_getitem.lookup (wpAny_getItem_list hx4 (k := 0) (Int.le_refl 0) (by decide) (x := items[0]) (by simp) ?_) (subscripted_no o2 _ _)
  rw [hv]
  exact fin (i := i) ⟨t, Nat.zero_le _, rfl⟩ (((G1.trans G2).trans G3).trans G4) I4
theorem stmtA (B : Base c) (G : Globs c) (S : Stat c (HK c.w.params)) (Ev : EnvOk c env) (hn : env.scope.names = ns) (hA : AOk A 40) {X : X} {σ : XSt} {st : Stmt} (m : MS ns X st) {P : Fl → XSt → Prop} (h : (ev tab 40).s X σ (kP P) = true) (J : Inv c g mm nw σ s) :
  wpAny (model pg c.w) A (exec st env) (fun f s' => ∃ fl σ' g' m' nw', P fl σ' ∧ RFl c.π g' fl f ∧ Grow g g' ∧ Inv c g' m' nw' σ' s') E0 s := by
 refine wpAny_mono ((all40 c.w.params).s h m B G S Ev hn hA ⟨mm, nw, J⟩) (fun f s' q => ?_) fun _ _ e => e
 obtain ⟨fl, σ', g', h1, G1, rf, m', nw', J'⟩ := q
 exact ⟨fl, σ', g', m', nw', kP_is h1, rf, G1, J'⟩
theorem poolN (B : Base c) (G : Globs c) (S : Stat c (HK c.w.params)) (hA : AOk A 41) (hx : c.h₀.IsList x items) (hi : ∀ v ∈ items.toList, ∃ (i : Int) (t : Tok), v = .int i t) (J : Inv c g mm nw (sP0 x) s) :
  wpN (model pg c.w) A (call (.ref 1277) [.ref x]) (fun v s' => ∃ a b r g' nw', g'[1]? = some r ∧ v = .ref r ∧ Inv c g' mm nw' ⟨csZ, hpP a b, 2, [(305, .sta x)]⟩ s') E0 s := by
 refine wpN_call ?_
 obtain ⟨o, fd, body, k1, k2, k3, k4, k5, k6, k7, k8, k9, k10, k11, k12⟩ := (((facts c.w.params).fn B G S).ok 1277 fi_1277 fi_pool).ex
 obtain ⟨binds, b1, b2, b3⟩ := k12 c.π g [.sta x] [(305, .sta x)] [.ref x] s rfl (.cons rfl .nil) J.fr.keep
 have X := S.kin.keeps J.fr.keep
 refine codeN_def hA.deep (X _ _ k1) k2 (B.lim.keeps J.fr.keep) (codeRec_of X k11) k3 b1 k8 b2 (fun h₀ hns hk => ?_) k6 k7 k5
 obtain ⟨oL, es, ep, d1, I2⟩ := J.enter hns hk (Nat.zero_le _) b3
 have Ev : EnvOk (c.into oL s.heap.objs.size) (callEnv fd s.heap.objs.size 1277) := ⟨k5, rfl, k9, k10⟩
 have hA2 : AOk (A.deeper (callEnv fd s.heap.objs.size 1277)) 40 := hA.deeper _
 have k4 : MSs fd.scope.names fb_1277 body := k4
 rw [fb_1277_eq] at k4
 replace k4 := k4.view; obtain ⟨st1, r1, rfl, m1, m⟩ := k4
 replace m := m.view; obtain ⟨st2, r2, rfl, m2, m⟩ := m
 replace m := m.view; obtain ⟨st3, r3, rfl, m3, m⟩ := m
 obtain rfl : r3 = [] := m.view
 refine wpN_cons (wpN.of (wpAny_mono (pool0 (B.into oL _) (G.into oL _) (S.into oL _) Ev rfl hA2 hx hi m1 I2) (fun f s1 z => ?_) fun _ _ e => e.elim))
 obtain ⟨rfl, v, g1, n1, w1, G1, J1⟩ := z
 refine wpN_cons (wpN.of (wpAny_mono (stmtA (B.into oL _) (G.into oL _) (S.into oL _) Ev rfl hA2 m2 (P := fun f σ => f = .next ∧ ∃ gr, σ = sP3 x v gr) (by
  rw [eq_p2]
  refine kP_mk (P := fun f σ => f = .next ∧ ∃ gr, σ = sP3 x v gr) ⟨rfl, ?_⟩
  cases gtB (-1 - v) v with
  | true => exact ⟨-1 - v, rfl⟩
  | false => exact ⟨v, rfl⟩) J1) (fun f s2 z => ?_) fun _ _ e => e.elim))
 obtain ⟨fl, σ2, g2, n2, w2, ⟨rfl, gr, rfl⟩, rf, G2, J2⟩ := z
 cases f with
 | next =>
  refine wpN_cons (wpN.of (wpAny_mono (stmtA (B.into oL _) (G.into oL _) (S.into oL _) Ev rfl hA2 m3 (P := fun f σ => f = .ret (.own 1) ∧ ∃ a b, σ = ⟨csZ, hpP a b, 2, [(305, .sta x), (307, nX v), (308, nX gr)]⟩) (by
   rw [eq_p3, bigB_small]
   exact kP_mk (P := fun f σ => f = .ret (.own 1) ∧ ∃ a b, σ = ⟨csZ, hpP a b, 2, [(305, .sta x), (307, nX v), (308, nX gr)]⟩) (f := .ret (.own 1)) ⟨rfl, gr * bigB gr, Int.fmod ((Int.fmod gr 2147483629 + 17) * 48271) 2147483647, rfl⟩) J2) (fun f s3 z => ?_) fun _ _ e => e.elim))
  obtain ⟨fl, σ3, g3, n3, w3, ⟨rfl, a, b, rfl⟩, rf, G3, J3⟩ := z
  have J4 := J3.leave d1.2 J.fr.above J.heldNe J.loc ((G1.trans G2).trans G3)
  cases f with
  | ret u =>
   obtain ⟨r, h1, rfl⟩ := rf
   exact ⟨a, b, r, g3, _, h1, rfl, J4⟩
  | _ => exact rf.elim
 | _ => exact rf.elim
end
end
end Mine
set_option maxRecDepth 100000
set_option genInjectivity false
set_option genSizeOf false
namespace Mine
open PySem PySem.W PySem.Calls PyProof.Rows PySem.SeqAt PyProof.V PySem.Spec
section
noncomputable def ringI : List Int := [128, 4294967296]
section
variable {c : Cx} {A : Around} {env : Env} {ns : Nk} {g : Ow} {s : Shared} {mm : Str → Option Value} {nw : List (Addr × Obj)} {x : Addr} {items : Array Value} {r : Addr} {a b R : Int}
theorem law0 (p : Pl c A env ns) (hc : c.H = []) (hx : c.h₀.IsList x items) (hi : ∀ v ∈ items.toList, ∃ (i : Int) (t : Tok), v = .int i t) {st : Stmt} (m : MS ns lw_0 st) (J : Inv c [] mm nw (sP0 x) s) :
  wpN (model pg c.w) A (exec st env) (fun f s' => f = .next ∧ ∃ a b r, LI c r a b [(301, .own 0)] s') E0 s := by
 have A40 := all40 c.w.params
 have hA : AOk A 40 := p.hA.le (by omega)
 rw [lw_0_eq] at m
 obtain ⟨te, ae, ps, rfl, mt, me, hp⟩ := m.view
 obtain ⟨fe, es0, p2, rfl, m0, hat, m2⟩ := me.view
 obtain ⟨pf, rfl, hl, hd⟩ := m0.view
 have hcp : isComp (.Call (.Name (nm 294) pf) es0 [] p2) = false := rfl
 obtain ⟨rr, er, hr⟩ := rest_asg (E := E0) A40.a p.B p.G p.S p.Ev p.hn hA mt me hp (swaps_none hcp) (p := ps)
 rw [er]
 refine wpN_bindA (wpAny_standAt (wpN_bind ?_))
 have e0 : eval (.Call (.Name (nm 294) pf) es0 [] p2) env = (do callWith p2 (← eval (.Name (nm 294) pf) env) [] (backTo p2 (starEach es0 env)) (backToKw p2 (keywordEach [] env))) := rfl
 rw [e0]
 refine wpN_bindA (glb_at at_pool hl hd p.G p.Ev p.hn ⟨mm, nw, J⟩ fun u ru => ?_)
 have : u = .ref 1277 := ru
 subst this
 refine callArgsN A40.es p.B p.G p.S p.Ev p.hn hA ⟨mm, nw, J⟩ m2 (kl := lP fun xs σ => xs = [.sta x] ∧ σ = sP0 x) (by rw [eq_0a]; exact lP_mk ⟨rfl, rfl⟩) (fun hp hk => keeps_K (p.S.fns _ fi_1277 fi_pool) _ (p.S.kin.keeps hk)) fun vs xs σ1 g1 s1 h1 G1 r1 I1 => ?_
 obtain ⟨rfl, rfl⟩ := lP_is h1
 obtain ⟨m1, nw1, K⟩ := I1
 replace r1 := r1.uncons
 obtain ⟨_, _, rfl, q1, r1⟩ := r1
 obtain rfl := r1.unnil
 obtain rfl := q1
 refine wpN_mono (poolN p.B p.G p.S (p.hA.le (by omega)) hx hi K) (fun v s2 q => ?_) fun _ _ e => e
 obtain ⟨a, b, r, g2, nw2, e1, rfl, K2⟩ := q
 refine wpN.of (wpAny_mono (hr (k := uP fun σ => σ = ⟨csZ, hpP a b, 2, [(305, .sta x), (301, .own 1)]⟩) (by rw [eq_0b]; exact uP_mk rfl) (show RelV c.π g2 (.own 1) (.ref r) from ⟨r, e1, rfl⟩) ⟨_, _, K2⟩) (fun f s3 q => ?_) fun _ _ e => e)
 obtain ⟨rfl, σ3, g3, h3, G3, m3, nw3, K3⟩ := q
 obtain rfl := uP_is h3
 have e3 := G3.get e1
 obtain ⟨t, t', nn, L⟩ := K3.ls (j := 1) (a := a) (b := b) e3 rfl (by rw [hc]; simp)
 refine ⟨rfl, a, b, r, m3, t, t', nn, L, fun y z e => ?_⟩
 change br (Nat.beq 301 y) (some (.own 0)) none = some z at e
 cases hy : Nat.beq 301 y with
 | false => rw [hy] at e; exact nomatch e
 | true =>
  rw [hy] at e
  obtain rfl : z = .own 0 := by cases e; rfl
  obtain rfl := Nat.eq_of_beq_eq_true hy
  obtain ⟨v, h1, h2⟩ := K3.loc 301 (.own 1) rfl
  obtain ⟨r', h4, rfl⟩ := h2
  rw [e3] at h4; cases h4
  exact ⟨_, h1, r, rfl, rfl⟩
theorem thriceAt (p : Pl c A env ns) {σ : XSt} {vs : List Value} {loc rest : List (Nat × XV)} (J : Inv c g mm nw σ s) (hr : g[0]? = some r) (hs : σ.hp.get 0 = some (srcL a b)) (rl : RelL c.π g [nX R] vs) (hl : σ.loc = loc ++ rest) (hb : loc.all (fun p => lowB p.2) = true)
  (run : runTh R = true) : wpN (model pg c.w) A (call (.ref 1336) vs) (fun v s'' => v = .bool true ∧ LI c r a b loc s'') E0 s := by
 obtain ⟨t, t', nn, L⟩ := J.ls hr hs p.hH
 have M := J.rm hr hl hb
 replace rl := rl.uncons
 obtain ⟨_, _, rfl, h1, rl⟩ := rl
 obtain rfl := rl.unnil
 obtain ⟨t5, _, rfl⟩ := h1
 exact wpN_mono (thriceT p.T p.hA p.hg L run) (fun v s'' q => ⟨q.1, mm, t, t', nn, q.2, M⟩) fun _ _ e => e
theorem law2 (p : Pl c A env ns) (hR : Runs R) {st : Stmt} (m : MS ns (.ift (.or_ (.cons (notC 297 lw_2a) (.cons (notC 298 lw_2b) .nil))) retF .nil) st) (I : LI c r a b (lv1 R) s) :
  wpN (model pg c.w) A (exec st env) (fun f s' => f = .next ∧ LI c r a b (lv1 R) s') E0 s := by
 refine ifN p m fun te me => ?_
 obtain ⟨es, p3, rfl, ms⟩ := me.view
 obtain ⟨e1, r1, rfl, n1, ms⟩ := ms.view
 obtain ⟨e2, r2, rfl, n2, ms⟩ := ms.view
 obtain rfl : r2 = [] := ms.view
 obtain ⟨m0, t, t', nn, K⟩ := I.inv p.hz
 show wpN _ A (isTrue e1 env (eval e1 env) >>= fun t => match BoolOp.Or, t with
  | .And, false => pure false
  | .Or, true => pure true
  | _, _ => allTrue .Or [e2] env) _ E0 s
 refine wpN_bind (wpN_mono (notN p at_state fi_state n1 K (P := fun s'' => LI c r a b (lv1 R) s'') (PL := fun xs σ => xs = [nX R, .str 32, nX 8, .own 1] ∧ σ = sB a b [nX 16, nX (-1), nX 4, nX 21] (lv1 R)) (by rw [eq_2a]; exact lP_mk ⟨rfl, rfl⟩) fun vs xs σ' g' m' nw' s' hp G rl K' => ?_) (fun f s1 z => ?_) fun _ _ e => e)
 ·obtain ⟨rfl, rfl⟩ := hp
  exact stateAt p (loc := lv1 R) (rest := []) (j := 1) K' (G.get rfl) rfl (by decide) rfl rl (List.append_nil _).symm rfl hR.e (cs1_at _ _ _ _ _)
 ·obtain ⟨rfl, I1⟩ := z
  obtain ⟨m1, t1, t1', nn1, K1⟩ := I1.inv p.hz
  show wpN _ A (isTrue e2 env (eval e2 env) >>= fun t => match BoolOp.Or, t with
   | .And, false => pure false
   | .Or, true => pure true
   | _, _ => allTrue .Or [] env) _ E0 s1
  refine wpN_bind (wpN_mono (notN p at_thrice fi_thrice n2 K1 (P := fun s'' => LI c r a b (lv1 R) s'') (PL := fun xs σ => xs = [nX R] ∧ σ = sA a b (lv1 R)) (by rw [eq_2b]; exact lP_mk ⟨rfl, rfl⟩) fun vs xs σ' g' m' nw' s' hp G rl K' => ?_) (fun f s2 z => ?_) fun _ _ e => e)
  ·obtain ⟨rfl, rfl⟩ := hp
   exact thriceAt p (loc := lv1 R) (rest := []) K' (G.get rfl) rfl rl (List.append_nil _).symm rfl hR.th
  ·obtain ⟨rfl, I2⟩ := z
   exact wpN_pure ⟨rfl, I2⟩
theorem lawBody (p : Pl c A env ns) (hc : c.H = []) (hx : c.h₀.IsList x items) (hi : ∀ v ∈ items.toList, ∃ (i : Int) (t : Tok), v = .int i t) (hRs : ∀ R ∈ ringI, Runs R) {body : List Stmt} (m : MSs ns lawB body) (J : Inv c [] mm nw (sP0 x) s) :
  wpN (model pg c.w) A (execs body env) (fun f s' => f = .ret (.bool true) ∧ ∃ m' news', LS c.h₀ c.L c.gens c.drawn c.os m' news' s') E0 s := by
 rw [lawB_eq] at m
 replace m := m.view; obtain ⟨st0, r0, rfl, m0, m⟩ := m
 replace m := m.view; obtain ⟨st1, r1, rfl, m1, m⟩ := m
 replace m := m.view; obtain ⟨st2, r2, rfl, m2, m⟩ := m
 replace m := m.view; obtain ⟨st3, r3, rfl, m3, m⟩ := m
 replace m := m.view; obtain ⟨st4, r4, rfl, m4, m⟩ := m
 replace m := m.view; obtain ⟨st5, r5, rfl, m5, m⟩ := m
 replace m := m.view; obtain ⟨st6, r6, rfl, m6, m⟩ := m
 obtain rfl : r6 = [] := m.view
 refine next_go (law0 p hc hx hi m0 J) fun s1 z => ?_
 obtain ⟨a, b, r, I⟩ := z
 clear J
 obtain ⟨k1, t1, t1', v1, K1⟩ := I.inv p.hz
 refine stmt_go p m1 (P := fun σ => ∃ R a' b', R ∈ ringI ∧ σ = sB a' b' ringL (lv1 R)) ?_ K1 fun σ2 g2 k2 w2 s2 z G2 K2 => ?_
 ·rw [eq_1]
  refine takeR_ok (by omega) fun n a' b' h1 h2 => ?_
  refine atX_ok (xs := ringL) h1 (show n < 2 from h2) (by decide) fun v hv => ?_
  obtain ⟨f, hf, rfl⟩ := List.mem_map.mp (show v ∈ ringI.map nX from hv)
  exact kP_mk ⟨rfl, f, a', b', hf, rfl⟩
 obtain ⟨R, a2, b2, hRi, rfl⟩ := z
 have I2 : LI c r a2 b2 (lv1 R) s2 := K2.li (G2.get rfl) rfl p.hH (List.append_nil _).symm rfl
 clear K1 K2 I
 have hR := hRs R hRi
 refine next_go (law2 p hR m2 I2) fun s3 I3 => ?_
 obtain ⟨k3, t3, t3', v3, K3⟩ := I3.inv p.hz
 refine next_go (forN p hc m3 K3 (qs := [37, 39, 35]) (j := 1) (a := a2) (b := b2) (R := R) (rest := []) (r := r) rfl (by decide) (by rw [eq_3i]; exact vP_mk ⟨rfl, rfl, rfl, rfl⟩) fun body mb => body3 p hR mb) fun s4 z => ?_
 obtain ⟨a4, b4, I4⟩ := z
 obtain ⟨k4, t4, t4', v4, K4⟩ := I4.inv p.hz
 refine stmt_go p m4 (P := fun σ => σ = sB a4 b4 stL [(301, .own 0), (2, nX R), (306, .own 1)]) (by rw [eq_4]; exact kP_mk ⟨rfl, rfl⟩) K4 fun σ5 g5 k5 w5 s5 z G5 K5 => ?_
 obtain rfl := z
 refine next_go (forN p hc m5 K5 (qs := [32, 36, 35, 39, 37, 40, 41, 30]) (j := 3) (a := a4) (b := b4) (R := R) (rest := [(306, .own 1)]) (r := r) (G5.get rfl) (by decide) (by rw [eq_5i]; exact vP_mk ⟨rfl, rfl, rfl, rfl⟩) fun body mb => body5 p hR mb) fun s6 z => ?_
 obtain ⟨a6, b6, I6⟩ := z
 obtain ⟨k6, t6, t6', v6, K6⟩ := I6.inv p.hz
 refine wpN_cons (wpN.of (wpAny_mono (stmtA p.B p.G p.S p.Ev p.hn (p.hA.le (by omega)) m6 (P := fun f σ => f = .ret (.bool true) ∧ σ = sA a6 b6 (lv1 R)) (by rw [eq_6]; exact kP_mk ⟨rfl, rfl⟩) K6) (fun f s7 z => ?_) fun _ _ e => e))
 obtain ⟨fl, σ7, g7, k7, w7, ⟨rfl, rfl⟩, rf, G7, K7⟩ := z
 cases f with
 | ret u =>
  obtain rfl : u = .bool true := rf
  obtain ⟨t, t', nn, L⟩ := K7.ls (j := 0) (G7.get (x := r) rfl) rfl p.hH
  exact ⟨rfl, _, _, L⟩
 | _ => exact rf.elim
end
end
end Mine
set_option genInjectivity false
set_option genSizeOf false
namespace Mine
open PySem
set_option maxRecDepth 1000000
theorem k_128_30 : runC cases4 128 30 = true := by decide +kernel
theorem k_128_37 : runC cases4 128 37 = true := by decide +kernel
theorem k_128_th : runTh 128 = true := by decide +kernel
theorem k_128_o35 : runC (cs1 3 4 (-5) 16 21) 128 35 = true := by decide +kernel
theorem k_4294967296_36 : runC cases4 4294967296 36 = true := by decide +kernel
theorem k_4294967296_41 : runC cases4 4294967296 41 = true := by decide +kernel
theorem k_4294967296_o39 : runC (cs1 3 4 (-5) 16 21) 4294967296 39 = true := by decide +kernel
end Mine
set_option genInjectivity false
set_option genSizeOf false
namespace Mine
open PySem
set_option maxRecDepth 1000000
theorem k_128_32 : runC cases4 128 32 = true := by decide +kernel
theorem k_128_39 : runC cases4 128 39 = true := by decide +kernel
theorem k_128_e : runC (cs1 8 4 (-1) 16 21) 128 32 = true := by decide +kernel
theorem k_4294967296_30 : runC cases4 4294967296 30 = true := by decide +kernel
theorem k_4294967296_37 : runC cases4 4294967296 37 = true := by decide +kernel
theorem k_4294967296_th : runTh 4294967296 = true := by decide +kernel
theorem k_4294967296_o35 : runC (cs1 3 4 (-5) 16 21) 4294967296 35 = true := by decide +kernel
end Mine
set_option genInjectivity false
set_option genSizeOf false
namespace Mine
open PySem
set_option maxRecDepth 1000000
theorem k_128_35 : runC cases4 128 35 = true := by decide +kernel
theorem k_128_40 : runC cases4 128 40 = true := by decide +kernel
theorem k_128_o37 : runC (cs1 3 4 (-5) 16 21) 128 37 = true := by decide +kernel
theorem k_4294967296_32 : runC cases4 4294967296 32 = true := by decide +kernel
theorem k_4294967296_39 : runC cases4 4294967296 39 = true := by decide +kernel
theorem k_4294967296_e : runC (cs1 8 4 (-1) 16 21) 4294967296 32 = true := by decide +kernel
end Mine
set_option genInjectivity false
set_option genSizeOf false
namespace Mine
open PySem
set_option maxRecDepth 1000000
theorem k_128_36 : runC cases4 128 36 = true := by decide +kernel
theorem k_128_41 : runC cases4 128 41 = true := by decide +kernel
theorem k_128_o39 : runC (cs1 3 4 (-5) 16 21) 128 39 = true := by decide +kernel
theorem k_4294967296_35 : runC cases4 4294967296 35 = true := by decide +kernel
theorem k_4294967296_40 : runC cases4 4294967296 40 = true := by decide +kernel
theorem k_4294967296_o37 : runC (cs1 3 4 (-5) 16 21) 4294967296 37 = true := by decide +kernel
end Mine
set_option maxRecDepth 100000
set_option genInjectivity false
set_option genSizeOf false
namespace Mine
open PySem PySem.W PySem.Calls PyProof.Rows PySem.SeqAt PyProof.V PySem.Spec
section
theorem runs_at : ∀ R ∈ ringI, Runs R := by
 intro R hR
 rcases List.mem_cons.mp hR with rfl | hR
 ·refine ⟨k_128_e, fun q hq => ?_, k_128_th, fun q hq => ?_⟩
  ·simp only [List.mem_cons, List.not_mem_nil, or_false] at hq
   rcases hq with rfl | rfl | rfl
   ·exact k_128_o37
   ·exact k_128_o39
   ·exact k_128_o35
  ·simp only [List.mem_cons, List.not_mem_nil, or_false] at hq
   rcases hq with rfl | rfl | rfl | rfl | rfl | rfl | rfl | rfl
   ·exact k_128_32
   ·exact k_128_36
   ·exact k_128_35
   ·exact k_128_39
   ·exact k_128_37
   ·exact k_128_40
   ·exact k_128_41
   ·exact k_128_30
 ·obtain rfl := List.mem_singleton.mp hR
  refine ⟨k_4294967296_e, fun q hq => ?_, k_4294967296_th, fun q hq => ?_⟩
  ·simp only [List.mem_cons, List.not_mem_nil, or_false] at hq
   rcases hq with rfl | rfl | rfl
   ·exact k_4294967296_o37
   ·exact k_4294967296_o39
   ·exact k_4294967296_o35
  ·simp only [List.mem_cons, List.not_mem_nil, or_false] at hq
   rcases hq with rfl | rfl | rfl | rfl | rfl | rfl | rfl | rfl
   ·exact k_4294967296_32
   ·exact k_4294967296_36
   ·exact k_4294967296_35
   ·exact k_4294967296_39
   ·exact k_4294967296_37
   ·exact k_4294967296_40
   ·exact k_4294967296_41
   ·exact k_4294967296_30
theorem at_law : tab.globs.get 299 = some (.sta 1343) := by kernel_rfl
theorem fi_law : tab.funs.get 1343 = some fi_1343 := by kernel_rfl
theorem nm_law : nm 299 = dL.name := by kernel_rfl
theorem nm_law' : (nm 299 == "__name__") = false := by kernel_rfl
theorem ints_read {R : WRecords} {cl : Str → Option Addr} {h : Heap} : ∀ {ns : List Int} {vs : List Value} {as : List Addr}, ReadsAllW R cl h vs (ns.map .int) as → ∀ v ∈ vs, ∃ (i : Int) (t : Tok), v = .int i t
 | [], _, _, r, v, hv => by cases r; exact nomatch hv
 | n :: ns, _, _, r, v, hv => by
  cases r with
  | cons r1 r2 =>
   rcases List.mem_cons.mp hv with rfl | hv
   ·cases r1 with
    | int i t => exact ⟨_, t, rfl⟩
   ·exact ints_read r2 v hv
theorem callL : WalkL := by
 intro w s₀ s₁ mg mb Gr Y a o pm cd doc dV kV ho hd hcode hmg hgens args vals as hpre hreads hsys
 obtain ⟨hall, _⟩ := pre_splitW hpre
 obtain ⟨d, rest, rfl, hd1, hrest⟩ := hasAllW_cons (e := .list .int) (es := []) hall
 obtain rfl := hasAllW_nil hrest
 obtain ⟨xs, rfl, hxs⟩ := hasW_list hd1
 obtain ⟨nsI, rfl⟩ := items_int hxs
 have hv : ∃ x items, vals = [.ref x] ∧ s₁.heap.IsList x items ∧ ∀ v ∈ items.toList, ∃ (i : Int) (t : Tok), v = .int i t := by
  cases hreads with
  | cons r1 r2 =>
   cases r2
   obtain ⟨l, o, its, n, ai, rfl, h1, h2, h3, h4, _⟩ := readsW_list_open r1
   exact ⟨l, its, rfl, ⟨o, h1, h2, n, h3⟩, ints_read h4⟩
 obtain ⟨x, items, rfl, hx, hi⟩ := hv
 let c0 : Cx := ⟨w, zPi, s₁.heap, #[], s₁.drawn, s₁.os, s₁.heap.objs.size, []⟩
 have T : Start w s₁.heap := ⟨Y, Gr.T.nolimit, mg, mb, Gr.T.g, Gr.T.b, Gr.T.builtins⟩
 have B : Base c0 := base_of (c := c0) Y Gr.T.nolimit
 have G : Globs c0 := globs_of (c := c0) Y Gr.T.g Gr.T.b Gr.T.builtins
 have S : Stat c0 (HK w.params) := stat_of (c := c0) Y
 have ha : a = 1343 := by
  obtain ⟨mg', mb', g1, g2, g3⟩ := G.ns
  obtain ⟨v, hv, rv⟩ := g3 299 _ at_law
  have e : v = .ref 1343 := rv zPi []
  have em : mg' = mg := (Heap.Ns.eq_nsMap g1).trans (Heap.Ns.eq_nsMap Gr.T.g).symm
  subst e em
  rw [nm_law] at hv
  rcases hv with hv | ⟨hv, _⟩
  ·rw [hmg] at hv; cases hv; rfl
  ·rw [hmg] at hv; cases hv
 subst ha
 refine wpN_call ?_
 obtain ⟨o', fd, body, k1, k2, k3, k4, k5, k6, k7, k8, k9, k10, k11, k12⟩ := (((facts w.params).fn B G S).ok 1343 fi_1343 fi_law).ex
 obtain ⟨binds, b1, b2, b3⟩ := k12 zPi [] [.sta x] [(305, .sta x)] [.ref x] s₁ rfl (.cons rfl .nil) (fun _ _ e => e)
 have X := S.kin
 have hA : AOk callerA 305 := ⟨rfl, by show 1 + 300 + 2 * 305 < 990; omega, by show 4 + 20 * 305 < 9900; omega⟩
 refine codeN_def hA.deep (X _ _ k1) k2 Gr.T.nolimit (codeRec_of X k11) k3 b1 k8 b2 (fun h₀ hns hk => ?_) k6 k7 k5
 have J : Inv c0 [] (fun x => binds.reverse.lookup x) [] (sP0 x) { s₁ with heap := h₀, toks := s₁.toks + binds.length } := by
  refine ⟨⟨hns, hk, Nat.le_refl _⟩, (fun p hp => nomatch hp), (fun p hp => nomatch hp), List.nodup_nil, rfl, Nat.zero_le _, List.nodup_nil, (fun a ha => nomatch ha), (fun a ha => nomatch ha), (fun i o e => nomatch e), b3, fun d hd => ?_, Nat.zero_le _, hgens, rfl, rfl⟩
  match d, hd with
  | 0, _ => exact List.mem_cons_self
  | 1, _ => exact List.mem_cons_self
  | 2, _ => exact List.mem_cons_self
  | 3, _ => exact List.mem_cons_self
 have P : Pl c0 (callerA.deeper (callEnv fd s₁.heap.objs.size 1343)) (callEnv fd s₁.heap.objs.size 1343) fd.scope.names :=
  ⟨B, G, S, ⟨k5, rfl, k9, k10⟩, rfl, hA.deeper _, rfl, rfl, T, List.nodup_nil⟩
 refine wpN_mono (lawBody P rfl hx hi runs_at k4 J) (fun f s' q => ?_) fun _ _ e => e
 obtain ⟨rfl, m', news', L⟩ := q
 show GoodWG _ _ _ _ _ (.ok (.ret (.bool true))) s'
 refine GoodW.toG ⟨.inl ⟨.bool true, .bool true, [], rfl, fun cls => rfl, .bool true, ?_, fun _ => ⟨List.nodup_nil, fun a ha => nomatch ha⟩⟩, L.fr.keep, L.os, L.gens⟩
 show (WShape.has [] (.bool true) .bool && WTm.holds [] (.eq .res (.lit (.bool true))) _) = true
 rw [holdsW_of_value (X := true) (by simp [WTm.value]; decide +kernel)]
 rfl
end
end Mine

theorem PySem.Challenge.cw_xw0354_01_holds : PySem.Challenge.rw_xw0354_01.Holds := by
  exact Mine.openN Mine.callL
