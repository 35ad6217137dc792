import PyProof.Rows.All
import Wide.All
import OpenK.AllK
import Wide.FinOn
import Lean
import PySem.Challenge.RW_xw0342_01
open PySem PySem.W PyProof.Rows PySem.Calls
set_option Elab.async false
set_option maxRecDepth 100000
set_option linter.unusedVariables false
set_option compiler.extract_closed false
namespace Mine
/-! ## the objects that the top leaves, functions by their place in the program -/
abbrev so (s : String) : Str := Str.ofString s
abbrev sv (s : String) (t : Nat) : Value := .str (Str.ofString s) t
abbrev en (P : Params) (s : String) (t : Nat) (v : Value) : DictEntry := ⟨PyData.keyHash P (Str.ofString s), .str (Str.ofString s) t, v⟩
noncomputable def nthS : List Stmt → Nat → Stmt
  | [], _ => .Pass ⟨0, 0, 0, 0⟩
  | s :: _, 0 => s
  | _ :: r, n + 1 => nthS r n
def inCls (s : Stmt) : List Stmt := match s with
  | .ClassDef _ _ _ b _ _ _ _ _ _ _ => b
  | _ => []
noncomputable def st (p : Program) (i : Nat) (j : Option Nat) : Stmt := match j with
  | none => nthS p.main.body i
  | some j => nthS (inCls (nthS p.main.body i)) j
def fo (s : Stmt) (qual : String) (dV mod code : Value) : Obj := match s with
  | .FunctionDef n a b _ _ _ sc _ _ _ => ⟨.type "function", none, .func (fnOf n (Str.ofString qual) a b sc dV .none .none mod none code .none), #[]⟩
  | _ => default
def fc (s : Stmt) (qual : String) : Obj := match s with
  | .FunctionDef n a b _ _ _ sc _ _ _ => ⟨.none, none, .func { name := n, qualname := Str.ofString qual, params := a, body := .stmts b, scope := sc, globals := 0, closure := [], defaults := .none, kwdefaults := .none }, #[]⟩
  | _ => default
noncomputable def ents3 (P : Params) : List DictEntry := [en P "__doc__" 166 (.none), en P "__package__" 167 (.none), en P "__loader__" 168 (.builtin "__main__.__loader__#opaque"), en P "__spec__" 169 (.none), en P "__annotations__" 170 (.ref 6), en P "__builtins__" 171 (.ref 4), en P "__file__" 173 (sv "/claim/cut.py" 172), en P "__cached__" 174 (.none), en P "_wall" 193 (.ref 21), en P "StackError" 224 (.ref 38), en P "SizeError" 240 (.ref 51), en P "StateError" 256 (.ref 63), en P "plus" 267 (.ref 72), en P "distance" 276 (.ref 79), en P "is_before" 286 (.ref 86), en P "is_at_most" 295 (.ref 93), en P "latest" 304 (.ref 100), en P "AckPolicy" 377 (.ref 153), en P "Congestion" 496 (.ref 244), en P "MOST_SHIFT_retransmit" 500 (.int 7 499), en P "RetransmitClock" 599 (.ref 321), en P "RttEstimate" 675 (.ref 377), en P "SendQueue" 747 (.ref 433), en P "PeerWindow" 810 (.ref 475), en P "Sender" 1048 (.ref 666), en P "put16" 1057 (.ref 677), en P "FIN" 1061 (.int 1 1060), en P "SYN" 1063 (.int 2 1062), en P "PSH" 1065 (.int 8 1064), en P "ACK" 1067 (.int 16 1066), en P "OPTION_MSS" 1069 (.int 2 1068), en P "MSS_SIZE" 1071 (.int 4 1070), en P "Segment" 1141 (.ref 716), en P "check_number" 1149 (.ref 727), en P "mss_option" 1156 (.ref 734), en P "CLOSED" 1160 (sv "closed" 1159), en P "LISTEN" 1162 (sv "listen" 1161), en P "SYN_SENT" 1164 (sv "syn sent" 1163), en P "SYN_RECEIVED" 1166 (sv "syn received" 1165), en P "ESTABLISHED" 1168 (sv "established" 1167), en P "FIN_WAIT_1" 1170 (sv "fin wait 1" 1169), en P "FIN_WAIT_2" 1172 (sv "fin wait 2" 1171), en P "CLOSE_WAIT" 1174 (sv "close wait" 1173), en P "CLOSING" 1176 (sv "closing" 1175), en P "LAST_ACK" 1178 (sv "last ack" 1177), en P "TIME_WAIT" 1180 (sv "time wait" 1179), en P "opening_steps" 1186 (.ref 741), en P "closing_steps" 1192 (.ref 748), en P "follow" 1201 (.ref 755), en P "is_sending" 1208 (.ref 762), en P "Wheel" 1301 (.ref 823), en P "RESEND" 1305 (.int 1 1304), en P "PERSIST" 1307 (.int 2 1306), en P "DELAYED" 1309 (.int 3 1308), en P "WAIT" 1311 (.int 4 1310), en P "MOST_WINDOW" 1313 (.int 65535 1312), en P "Limits" 1360 (.ref 844), en P "clock_of" 1368 (.ref 855), en P "Tcb" 1434 (.ref 887), en P "MOST_SHIFT_tcp_user" 1438 (.int 7 1437), en P "change_state" 1447 (.ref 898), en P "open_active" 1455 (.ref 905), en P "syn_segment" 1462 (.ref 912), en P "flags_of" 1471 (.ref 919), en P "take_asked_fin" 1479 (.ref 926), en P "data_segments" 1495 (.ref 933), en P "output" 1504 (.ref 940), en P "set_resend" 1512 (.ref 947), en P "keep_timers" 1520 (.ref 954), en P "probe_wait" 1528 (.ref 961), en P "_law_pool" 1541 (.ref 968), en P "_law_take" 1550 (.ref 975), en P "_law_one" 1558 (.ref 982), en P "_law_told" 1564 (.ref 987), en P "_law_wait" 1578 (.ref 994), en P "_law_right" 1593 (.ref 1001), en P "law" 1599 (.ref 1006)]
noncomputable def vals12 : List Value := [.int 1 0, .int 0 0, .ref 20, .int 5 0, .int 0 0, .ref 27, .int 9 0, .int 0 0, .ref 47, .int 11 0, .int 0 0, .ref 59, .int 14 0, .int 0 0, .ref 71, .int 16 0, .int 0 0, .ref 78, .int 18 0, .int 0 0, .ref 85, .int 21 0, .int 0 0, .ref 92, .int 23 0, .int 0 0, .ref 99, .int 26 0, .int 0 0, .ref 106, .int 50 0, .int 0 0, .ref 163, .int 112 0, .int 0 0, .ref 254, .int 158 0, .int 0 0, .ref 331, .int 196 0, .int 0 0, .ref 387, .int 225 0, .int 0 0, .ref 443, .int 253 0, .int 0 0, .ref 485, .int 397 0, .int 0 0, .ref 676, .int 406 0, .int 0 0, .ref 683, .int 427 0, .int 0 0, .ref 726, .int 430 0, .int 0 0, .ref 733, .int 445 0, .int 0 0, .ref 740, .int 447 0, .int 0 0, .ref 747, .int 449 0, .int 0 0, .ref 754, .int 458 0, .int 0 0, .ref 761, .int 461 0, .int 0 0, .ref 768, .int 521 0, .int 0 0, .ref 833, .int 534 0, .int 0 0, .ref 854, .int 537 0, .int 0 0, .ref 861, .int 572 0, .int 0 0, .ref 897, .int 577 0, .int 0 0, .ref 904, .int 580 0, .int 0 0, .ref 911, .int 582 0, .int 0 0, .ref 918, .int 589 0, .int 0 0, .ref 925, .int 594 0, .int 0 0, .ref 932, .int 604 0, .int 0 0, .ref 939, .int 615 0, .int 0 0, .ref 946, .int 620 0, .int 0 0, .ref 953, .int 632 0, .int 0 0, .ref 960, .int 636 0, .int 0 0, .ref 967, .int 641 0, .int 0 0, .ref 974, .int 648 0, .int 0 0, .ref 981, .int 650 0, .int 0 0, .ref 986, .int 652 0, .int 0 0, .ref 993, .int 659 0, .int 0 0, .ref 1000, .int 678 0, .int 0 0, .ref 1005]
noncomputable def k0_0 (p : Program) (P : Params) : Obj := boot_o_0 P
noncomputable def k1_0 (p : Program) (P : Params) : Obj := boot_o_1 P
noncomputable def k2_0 (p : Program) (P : Params) : Obj := boot_o_2 P
noncomputable def k3_0 (p : Program) (P : Params) : Obj := ⟨.type "dict", none, .dict (List.toArray (en P "__name__" 165 (sv "__main__" 164) :: (ents3 P).take 8)) 9, #[]⟩
noncomputable def k4_0 (p : Program) (P : Params) : Obj := boot_o_4 P
noncomputable def k5_0 (p : Program) (P : Params) : Obj := boot_o_5 P
noncomputable def k6_0 (p : Program) (P : Params) : Obj := boot_o_6 P
noncomputable def k7_0 (p : Program) (P : Params) : Obj := boot_o_7 P
noncomputable def k8_0 (p : Program) (P : Params) : Obj := boot_o_8 P
noncomputable def k9_0 (p : Program) (P : Params) : Obj := boot_o_9 P
noncomputable def k10_0 (p : Program) (P : Params) : Obj := boot_o_10 P
noncomputable def k11_0 (p : Program) (P : Params) : Obj := ⟨.type "tuple", none, .seq #[] 0, #[]⟩
noncomputable def k12_0 (p : Program) (P : Params) : Obj := ⟨.none, none, .fields (List.toArray (vals12.take 0)), #[]⟩
noncomputable def k13_0 (p : Program) (P : Params) : Obj := ⟨.type "code", none, .fields #[sv "<module>" 182, sv "<module>" 183, sv "/claim/cut.py" 184, .int 1 0, .int 0 0, .int 0 0, .int 0 0, .int 0 0, .ref 11, .bool false, .int 181 0, .ref 12, .none, .none, .none, .none, .int 185 0, .int 1 0, sv "/claim/cut.py" 186], #[]⟩
noncomputable def k14_0 (p : Program) (P : Params) : Obj := ⟨.type "frame", none, .plain, #[some (.ref 13), some (.ref 3), some (.ref 3), none, some (sv "__main__" 164), none, some (.ref 0)]⟩
noncomputable def T0 (p : Program) (P : Params) : BT := (.node (k0_0 p P) (.node (k1_0 p P) (.node (k3_0 p P) (.node (k7_0 p P) .nil .nil) (.node (k11_0 p P) .nil .nil)) (.node (k5_0 p P) (.node (k9_0 p P) .nil .nil) (.node (k13_0 p P) .nil .nil))) (.node (k2_0 p P) (.node (k4_0 p P) (.node (k8_0 p P) .nil .nil) (.node (k12_0 p P) .nil .nil)) (.node (k6_0 p P) (.node (k10_0 p P) .nil .nil) (.node (k14_0 p P) .nil .nil))))
noncomputable def S0 (p : Program) (w : World) (os : OsState) : SharedT := ⟨T0 p w.params, 15, {}, #[], {}, 187, os⟩
def pos0 : Pos := ⟨0, 0, 0, 0⟩
noncomputable def k1_1 (p : Program) (P : Params) : Obj := ⟨.type "dict", none, .dict (List.toArray [en P "builtins" 162 (.ref 4), en P "__main__" 163 (.ref 5)]) 2, #[]⟩
noncomputable def k2_1 (p : Program) (P : Params) : Obj := ⟨.none, none, .dict (List.toArray [en P "type.__subclasses__.Exception.0" 221 (.int 38 0), en P "type.__subclasses__.Exception.n" 222 (.int 1 0)]) 2, #[]⟩
noncomputable def k3_1 (p : Program) (P : Params) : Obj := ⟨.type "dict", none, .dict (List.toArray (en P "__name__" 165 (sv "thinstack.acks" 305) :: (ents3 P).take 17)) 18, #[]⟩
noncomputable def k4_1 (p : Program) (P : Params) : Obj := ⟨.type "module", some 0, .plain, #[]⟩
noncomputable def k5_1 (p : Program) (P : Params) : Obj := ⟨.type "module", some 3, .plain, #[]⟩
noncomputable def k6_1 (p : Program) (P : Params) : Obj := ⟨.type "dict", none, .dict (List.toArray []) 0, #[]⟩
noncomputable def k7_1 (p : Program) (P : Params) : Obj := ⟨.type "tuple", none, .seq #[] 0, #[]⟩
noncomputable def k8_1 (p : Program) (P : Params) : Obj := ⟨.none, none, .fields #[], #[]⟩
noncomputable def k9_1 (p : Program) (P : Params) : Obj := ⟨.type "code", none, .fields #[sv "<module>" 176, sv "<module>" 177, sv "/claim/cut.py" 178, .int 1 0, .int 0 0, .int 0 0, .int 0 0, .int 0 0, .ref 7, .bool false, .int 175 0, .ref 8, .none, .none, .none, .none, .int 179 0, .int 1 0, sv "/claim/cut.py" 180], #[]⟩
noncomputable def k10_1 (p : Program) (P : Params) : Obj := ⟨.type "frame", none, .plain, #[some (.ref 9), some (.ref 3), some (.ref 3), none, some (sv "__main__" 164), none, some (.ref 0)]⟩
noncomputable def k12_1 (p : Program) (P : Params) : Obj := ⟨.none, none, .fields (List.toArray (vals12.take 27)), #[]⟩
noncomputable def k15_1 (p : Program) (P : Params) : Obj := ⟨.type "tuple", none, .seq #[] 0, #[]⟩
noncomputable def k16_1 (p : Program) (P : Params) : Obj := ⟨.none, none, .fields #[], #[]⟩
noncomputable def k17_1 (p : Program) (P : Params) : Obj := ⟨.type "tuple", none, .seq #[sv "k" 190] 0, #[]⟩
noncomputable def k18_1 (p : Program) (P : Params) : Obj := ⟨.type "tuple", none, .seq #[] 0, #[]⟩
noncomputable def k19_1 (p : Program) (P : Params) : Obj := fc (st p 0 none) "_wall"
noncomputable def k20_1 (p : Program) (P : Params) : Obj := ⟨.type "code", none, .fields #[sv "_wall" 187, sv "_wall" 188, sv "/claim/cut.py" 189, .int 1 0, .int 1 0, .int 0 0, .int 0 0, .int 3 0, .ref 15, .bool true, .int 181 0, .ref 16, .none, .ref 17, .ref 18, .ref 19, .int 191 0, .int 1 0, sv "/claim/cut.py" 192], #[]⟩
noncomputable def k21_1 (p : Program) (P : Params) : Obj := fo (st p 0 none) "_wall" (.none) (sv "__main__" 164) (.ref 20)
noncomputable def k22_1 (p : Program) (P : Params) : Obj := ⟨.type "tuple", none, .seq #[.type "Exception"] 0, #[]⟩
noncomputable def k23_1 (p : Program) (P : Params) : Obj := ⟨.type "builtin_function_or_method", none, .fields #[.builtin "type.__prepare__", .type "type"], #[]⟩
noncomputable def k24_1 (p : Program) (P : Params) : Obj := ⟨.type "dict", none, .dict (List.toArray [en P "__module__" 203 (sv "thinstack.errors" 194), en P "__qualname__" 205 (sv "StackError" 204), en P "__firstlineno__" 207 (.int 5 206), en P "__init__" 215 (.ref 35), en P "__static_attributes__" 217 (.ref 36)]) 5, #[]⟩
noncomputable def k25_1 (p : Program) (P : Params) : Obj := ⟨.type "tuple", none, .seq #[] 0, #[]⟩
noncomputable def k26_1 (p : Program) (P : Params) : Obj := ⟨.none, none, .fields #[.int 7 0, .int 4 0, .ref 34], #[]⟩
noncomputable def k27_1 (p : Program) (P : Params) : Obj := ⟨.type "code", none, .fields #[sv "StackError" 198, sv "StackError" 199, sv "/claim/cut.py" 200, .int 5 0, .int 0 0, .int 0 0, .int 0 0, .int 0 0, .ref 25, .bool false, .int 181 0, .ref 26, .none, .none, .none, .none, .int 201 0, .int 5 0, sv "/claim/cut.py" 202], #[]⟩
noncomputable def k28_1 (p : Program) (P : Params) : Obj := ⟨.type "frame", none, .plain, #[some (.ref 27), some (.ref 3), some (.ref 24), none, some (sv "thinstack.errors" 194), none, some (.ref 0)]⟩
noncomputable def k29_1 (p : Program) (P : Params) : Obj := ⟨.type "tuple", none, .seq #[] 0, #[]⟩
noncomputable def k30_1 (p : Program) (P : Params) : Obj := ⟨.none, none, .fields #[], #[]⟩
noncomputable def k31_1 (p : Program) (P : Params) : Obj := ⟨.type "tuple", none, .seq #[sv "self" 211, sv "message" 212] 0, #[]⟩
noncomputable def k32_1 (p : Program) (P : Params) : Obj := ⟨.type "tuple", none, .seq #[] 0, #[]⟩
noncomputable def k33_1 (p : Program) (P : Params) : Obj := fc (st p 2 (some 0)) "StackError.__init__"
noncomputable def k34_1 (p : Program) (P : Params) : Obj := ⟨.type "code", none, .fields #[sv "__init__" 208, sv "StackError.__init__" 209, sv "/claim/cut.py" 210, .int 7 0, .int 2 0, .int 0 0, .int 0 0, .int 3 0, .ref 29, .bool true, .int 181 0, .ref 30, .none, .ref 31, .ref 32, .ref 33, .int 213 0, .int 7 0, sv "/claim/cut.py" 214], #[]⟩
noncomputable def k35_1 (p : Program) (P : Params) : Obj := fo (st p 2 (some 0)) "StackError.__init__" (.none) (sv "thinstack.errors" 194) (.ref 34)
noncomputable def k36_1 (p : Program) (P : Params) : Obj := ⟨.type "tuple", none, .seq #[sv "message" 216] 0, #[]⟩
noncomputable def k37_1 (p : Program) (P : Params) : Obj := ⟨.type "dict", none, .dict (List.toArray [en P "__module__" 203 (sv "thinstack.errors" 194), en P "__firstlineno__" 207 (.int 5 206), en P "__init__" 215 (.ref 35), en P "__static_attributes__" 217 (.ref 36), en P "__weakref__" 219 (.ref 39), en P "__doc__" 220 (.none)]) 3, #[]⟩
noncomputable def k38_1 (p : Program) (P : Params) : Obj := ⟨.type "type", none, .cls { name := so "StackError", bases := [.type "Exception"], mro := [.ref 38, .type "Exception", .type "BaseException", .type "object"], ns := 37, qualname := so "StackError", hasDict := true, slotNames := [], subclasses := [.ref 51, .ref 63], abstract := false, collection := none, hasDel := false }, #[some (.ref 22), none, some (sv "StackError" 196), some (sv "StackError" 204), some (.builtin "Exception.__new__"), some (.bool true)]⟩
noncomputable def k39_1 (p : Program) (P : Params) : Obj := ⟨.type "getset_descriptor", none, .fields #[sv "__weakref__" 218, .ref 38, .builtin "ExceptionGroup.__weakref__", .none], #[]⟩
noncomputable def k40_1 (p : Program) (P : Params) : Obj := ⟨.type "super", none, .fields #[.ref 38, .ref 38, .ref 38], #[]⟩
noncomputable def k41_1 (p : Program) (P : Params) : Obj := ⟨.type "builtin_function_or_method", none, .fields #[.builtin "object.__init_subclass__", .ref 38], #[]⟩
noncomputable def k42_1 (p : Program) (P : Params) : Obj := ⟨.type "tuple", none, .seq #[.ref 38] 0, #[]⟩
noncomputable def k43_1 (p : Program) (P : Params) : Obj := ⟨.type "builtin_function_or_method", none, .fields #[.builtin "type.__prepare__", .type "type"], #[]⟩
noncomputable def k44_1 (p : Program) (P : Params) : Obj := ⟨.type "dict", none, .dict (List.toArray [en P "__module__" 232 (sv "thinstack.errors" 194), en P "__qualname__" 234 (sv "SizeError" 233), en P "__firstlineno__" 236 (.int 9 235), en P "__static_attributes__" 237 (.ref 49)]) 4, #[]⟩
noncomputable def k45_1 (p : Program) (P : Params) : Obj := ⟨.type "tuple", none, .seq #[] 0, #[]⟩
noncomputable def k46_1 (p : Program) (P : Params) : Obj := ⟨.none, none, .fields #[], #[]⟩
noncomputable def k47_1 (p : Program) (P : Params) : Obj := ⟨.type "code", none, .fields #[sv "SizeError" 227, sv "SizeError" 228, sv "/claim/cut.py" 229, .int 9 0, .int 0 0, .int 0 0, .int 0 0, .int 0 0, .ref 45, .bool false, .int 181 0, .ref 46, .none, .none, .none, .none, .int 230 0, .int 9 0, sv "/claim/cut.py" 231], #[]⟩
noncomputable def k48_1 (p : Program) (P : Params) : Obj := ⟨.type "frame", none, .plain, #[some (.ref 47), some (.ref 3), some (.ref 44), none, some (sv "thinstack.errors" 194), none, some (.ref 0)]⟩
noncomputable def k49_1 (p : Program) (P : Params) : Obj := ⟨.type "tuple", none, .seq #[] 0, #[]⟩
noncomputable def k50_1 (p : Program) (P : Params) : Obj := ⟨.type "dict", none, .dict (List.toArray [en P "__module__" 232 (sv "thinstack.errors" 194), en P "__firstlineno__" 236 (.int 9 235), en P "__static_attributes__" 237 (.ref 49), en P "__doc__" 238 (.none)]) 2, #[]⟩
noncomputable def k51_1 (p : Program) (P : Params) : Obj := ⟨.type "type", none, .cls { name := so "SizeError", bases := [.ref 38], mro := [.ref 51, .ref 38, .type "Exception", .type "BaseException", .type "object"], ns := 50, qualname := so "SizeError", hasDict := true, slotNames := [], subclasses := [], abstract := false, collection := none, hasDel := false }, #[some (.ref 42), none, some (sv "SizeError" 225), some (sv "SizeError" 233), some (.builtin "Exception.__new__"), some (.bool true)]⟩
noncomputable def k52_1 (p : Program) (P : Params) : Obj := ⟨.type "super", none, .fields #[.ref 51, .ref 51, .ref 51], #[]⟩
noncomputable def k53_1 (p : Program) (P : Params) : Obj := ⟨.type "builtin_function_or_method", none, .fields #[.builtin "object.__init_subclass__", .ref 51], #[]⟩
noncomputable def k54_1 (p : Program) (P : Params) : Obj := ⟨.type "tuple", none, .seq #[.ref 38] 0, #[]⟩
noncomputable def k55_1 (p : Program) (P : Params) : Obj := ⟨.type "builtin_function_or_method", none, .fields #[.builtin "type.__prepare__", .type "type"], #[]⟩
noncomputable def k56_1 (p : Program) (P : Params) : Obj := ⟨.type "dict", none, .dict (List.toArray [en P "__module__" 248 (sv "thinstack.errors" 194), en P "__qualname__" 250 (sv "StateError" 249), en P "__firstlineno__" 252 (.int 11 251), en P "__static_attributes__" 253 (.ref 61)]) 4, #[]⟩
noncomputable def k57_1 (p : Program) (P : Params) : Obj := ⟨.type "tuple", none, .seq #[] 0, #[]⟩
noncomputable def k58_1 (p : Program) (P : Params) : Obj := ⟨.none, none, .fields #[], #[]⟩
noncomputable def k59_1 (p : Program) (P : Params) : Obj := ⟨.type "code", none, .fields #[sv "StateError" 243, sv "StateError" 244, sv "/claim/cut.py" 245, .int 11 0, .int 0 0, .int 0 0, .int 0 0, .int 0 0, .ref 57, .bool false, .int 181 0, .ref 58, .none, .none, .none, .none, .int 246 0, .int 11 0, sv "/claim/cut.py" 247], #[]⟩
noncomputable def k60_1 (p : Program) (P : Params) : Obj := ⟨.type "frame", none, .plain, #[some (.ref 59), some (.ref 3), some (.ref 56), none, some (sv "thinstack.errors" 194), none, some (.ref 0)]⟩
noncomputable def k61_1 (p : Program) (P : Params) : Obj := ⟨.type "tuple", none, .seq #[] 0, #[]⟩
noncomputable def k62_1 (p : Program) (P : Params) : Obj := ⟨.type "dict", none, .dict (List.toArray [en P "__module__" 248 (sv "thinstack.errors" 194), en P "__firstlineno__" 252 (.int 11 251), en P "__static_attributes__" 253 (.ref 61), en P "__doc__" 254 (.none)]) 2, #[]⟩
noncomputable def k63_1 (p : Program) (P : Params) : Obj := ⟨.type "type", none, .cls { name := so "StateError", bases := [.ref 38], mro := [.ref 63, .ref 38, .type "Exception", .type "BaseException", .type "object"], ns := 62, qualname := so "StateError", hasDict := true, slotNames := [], subclasses := [], abstract := false, collection := none, hasDel := false }, #[some (.ref 54), none, some (sv "StateError" 241), some (sv "StateError" 249), some (.builtin "Exception.__new__"), some (.bool true)]⟩
noncomputable def k64_1 (p : Program) (P : Params) : Obj := ⟨.type "super", none, .fields #[.ref 63, .ref 63, .ref 63], #[]⟩
noncomputable def k65_1 (p : Program) (P : Params) : Obj := ⟨.type "builtin_function_or_method", none, .fields #[.builtin "object.__init_subclass__", .ref 63], #[]⟩
noncomputable def k66_1 (p : Program) (P : Params) : Obj := ⟨.type "tuple", none, .seq #[] 0, #[]⟩
noncomputable def k67_1 (p : Program) (P : Params) : Obj := ⟨.none, none, .fields #[], #[]⟩
noncomputable def k68_1 (p : Program) (P : Params) : Obj := ⟨.type "tuple", none, .seq #[sv "a" 262, sv "n" 263, sv "ring" 264] 0, #[]⟩
noncomputable def k69_1 (p : Program) (P : Params) : Obj := ⟨.type "tuple", none, .seq #[] 0, #[]⟩
noncomputable def k70_1 (p : Program) (P : Params) : Obj := fc (st p 6 none) "plus"
noncomputable def k71_1 (p : Program) (P : Params) : Obj := ⟨.type "code", none, .fields #[sv "plus" 259, sv "plus" 260, sv "/claim/cut.py" 261, .int 14 0, .int 3 0, .int 0 0, .int 0 0, .int 3 0, .ref 66, .bool true, .int 181 0, .ref 67, .none, .ref 68, .ref 69, .ref 70, .int 265 0, .int 14 0, sv "/claim/cut.py" 266], #[]⟩
noncomputable def k72_1 (p : Program) (P : Params) : Obj := fo (st p 6 none) "plus" (.none) (sv "thinstack.sequence" 257) (.ref 71)
noncomputable def k73_1 (p : Program) (P : Params) : Obj := ⟨.type "tuple", none, .seq #[] 0, #[]⟩
noncomputable def k74_1 (p : Program) (P : Params) : Obj := ⟨.none, none, .fields #[], #[]⟩
noncomputable def k75_1 (p : Program) (P : Params) : Obj := ⟨.type "tuple", none, .seq #[sv "a" 271, sv "b" 272, sv "ring" 273] 0, #[]⟩
noncomputable def k76_1 (p : Program) (P : Params) : Obj := ⟨.type "tuple", none, .seq #[] 0, #[]⟩
noncomputable def k77_1 (p : Program) (P : Params) : Obj := fc (st p 7 none) "distance"
noncomputable def k78_1 (p : Program) (P : Params) : Obj := ⟨.type "code", none, .fields #[sv "distance" 268, sv "distance" 269, sv "/claim/cut.py" 270, .int 16 0, .int 3 0, .int 0 0, .int 0 0, .int 3 0, .ref 73, .bool true, .int 181 0, .ref 74, .none, .ref 75, .ref 76, .ref 77, .int 274 0, .int 16 0, sv "/claim/cut.py" 275], #[]⟩
noncomputable def k79_1 (p : Program) (P : Params) : Obj := fo (st p 7 none) "distance" (.none) (sv "thinstack.sequence" 257) (.ref 78)
noncomputable def k80_1 (p : Program) (P : Params) : Obj := ⟨.type "tuple", none, .seq #[] 0, #[]⟩
noncomputable def k81_1 (p : Program) (P : Params) : Obj := ⟨.none, none, .fields #[], #[]⟩
noncomputable def k82_1 (p : Program) (P : Params) : Obj := ⟨.type "tuple", none, .seq #[sv "a" 280, sv "b" 281, sv "ring" 282, sv "gap" 283] 0, #[]⟩
noncomputable def k83_1 (p : Program) (P : Params) : Obj := ⟨.type "tuple", none, .seq #[] 0, #[]⟩
noncomputable def k84_1 (p : Program) (P : Params) : Obj := fc (st p 8 none) "is_before"
noncomputable def k85_1 (p : Program) (P : Params) : Obj := ⟨.type "code", none, .fields #[sv "is_before" 277, sv "is_before" 278, sv "/claim/cut.py" 279, .int 18 0, .int 3 0, .int 0 0, .int 0 0, .int 3 0, .ref 80, .bool true, .int 181 0, .ref 81, .none, .ref 82, .ref 83, .ref 84, .int 284 0, .int 18 0, sv "/claim/cut.py" 285], #[]⟩
noncomputable def k86_1 (p : Program) (P : Params) : Obj := fo (st p 8 none) "is_before" (.none) (sv "thinstack.sequence" 257) (.ref 85)
noncomputable def k87_1 (p : Program) (P : Params) : Obj := ⟨.type "tuple", none, .seq #[] 0, #[]⟩
noncomputable def k88_1 (p : Program) (P : Params) : Obj := ⟨.none, none, .fields #[], #[]⟩
noncomputable def k89_1 (p : Program) (P : Params) : Obj := ⟨.type "tuple", none, .seq #[sv "a" 290, sv "b" 291, sv "ring" 292] 0, #[]⟩
noncomputable def k90_1 (p : Program) (P : Params) : Obj := ⟨.type "tuple", none, .seq #[] 0, #[]⟩
noncomputable def k91_1 (p : Program) (P : Params) : Obj := fc (st p 9 none) "is_at_most"
noncomputable def k92_1 (p : Program) (P : Params) : Obj := ⟨.type "code", none, .fields #[sv "is_at_most" 287, sv "is_at_most" 288, sv "/claim/cut.py" 289, .int 21 0, .int 3 0, .int 0 0, .int 0 0, .int 3 0, .ref 87, .bool true, .int 181 0, .ref 88, .none, .ref 89, .ref 90, .ref 91, .int 293 0, .int 21 0, sv "/claim/cut.py" 294], #[]⟩
noncomputable def k93_1 (p : Program) (P : Params) : Obj := fo (st p 9 none) "is_at_most" (.none) (sv "thinstack.sequence" 257) (.ref 92)
noncomputable def k94_1 (p : Program) (P : Params) : Obj := ⟨.type "tuple", none, .seq #[] 0, #[]⟩
noncomputable def k95_1 (p : Program) (P : Params) : Obj := ⟨.none, none, .fields #[], #[]⟩
noncomputable def k96_1 (p : Program) (P : Params) : Obj := ⟨.type "tuple", none, .seq #[sv "a" 299, sv "b" 300, sv "ring" 301] 0, #[]⟩
noncomputable def k97_1 (p : Program) (P : Params) : Obj := ⟨.type "tuple", none, .seq #[] 0, #[]⟩
noncomputable def k98_1 (p : Program) (P : Params) : Obj := fc (st p 10 none) "latest"
noncomputable def k99_1 (p : Program) (P : Params) : Obj := ⟨.type "code", none, .fields #[sv "latest" 296, sv "latest" 297, sv "/claim/cut.py" 298, .int 23 0, .int 3 0, .int 0 0, .int 0 0, .int 3 0, .ref 94, .bool true, .int 181 0, .ref 95, .none, .ref 96, .ref 97, .ref 98, .int 302 0, .int 23 0, sv "/claim/cut.py" 303], #[]⟩
noncomputable def k100_1 (p : Program) (P : Params) : Obj := fo (st p 10 none) "latest" (.none) (sv "thinstack.sequence" 257) (.ref 99)
noncomputable def T1 (p : Program) (P : Params) : BT := (.node (k0_0 p P) (.node (k1_1 p P) (.node (k3_1 p P) (.node (k7_1 p P) (.node (k15_1 p P) (.node (k31_1 p P) (.node (k63_1 p P) .nil .nil) (.node (k95_1 p P) .nil .nil)) (.node (k47_1 p P) (.node (k79_1 p P) .nil .nil) .nil)) (.node (k23_1 p P) (.node (k39_1 p P) (.node (k71_1 p P) .nil .nil) .nil) (.node (k55_1 p P) (.node (k87_1 p P) .nil .nil) .nil))) (.node (k11_0 p P) (.node (k19_1 p P) (.node (k35_1 p P) (.node (k67_1 p P) .nil .nil) (.node (k99_1 p P) .nil .nil)) (.node (k51_1 p P) (.node (k83_1 p P) .nil .nil) .nil)) (.node (k27_1 p P) (.node (k43_1 p P) (.node (k75_1 p P) .nil .nil) .nil) (.node (k59_1 p P) (.node (k91_1 p P) .nil .nil) .nil)))) (.node (k5_1 p P) (.node (k9_1 p P) (.node (k17_1 p P) (.node (k33_1 p P) (.node (k65_1 p P) .nil .nil) (.node (k97_1 p P) .nil .nil)) (.node (k49_1 p P) (.node (k81_1 p P) .nil .nil) .nil)) (.node (k25_1 p P) (.node (k41_1 p P) (.node (k73_1 p P) .nil .nil) .nil) (.node (k57_1 p P) (.node (k89_1 p P) .nil .nil) .nil))) (.node (k13_0 p P) (.node (k21_1 p P) (.node (k37_1 p P) (.node (k69_1 p P) .nil .nil) .nil) (.node (k53_1 p P) (.node (k85_1 p P) .nil .nil) .nil)) (.node (k29_1 p P) (.node (k45_1 p P) (.node (k77_1 p P) .nil .nil) .nil) (.node (k61_1 p P) (.node (k93_1 p P) .nil .nil) .nil))))) (.node (k2_1 p P) (.node (k4_1 p P) (.node (k8_1 p P) (.node (k16_1 p P) (.node (k32_1 p P) (.node (k64_1 p P) .nil .nil) (.node (k96_1 p P) .nil .nil)) (.node (k48_1 p P) (.node (k80_1 p P) .nil .nil) .nil)) (.node (k24_1 p P) (.node (k40_1 p P) (.node (k72_1 p P) .nil .nil) .nil) (.node (k56_1 p P) (.node (k88_1 p P) .nil .nil) .nil))) (.node (k12_1 p P) (.node (k20_1 p P) (.node (k36_1 p P) (.node (k68_1 p P) .nil .nil) (.node (k100_1 p P) .nil .nil)) (.node (k52_1 p P) (.node (k84_1 p P) .nil .nil) .nil)) (.node (k28_1 p P) (.node (k44_1 p P) (.node (k76_1 p P) .nil .nil) .nil) (.node (k60_1 p P) (.node (k92_1 p P) .nil .nil) .nil)))) (.node (k6_1 p P) (.node (k10_1 p P) (.node (k18_1 p P) (.node (k34_1 p P) (.node (k66_1 p P) .nil .nil) (.node (k98_1 p P) .nil .nil)) (.node (k50_1 p P) (.node (k82_1 p P) .nil .nil) .nil)) (.node (k26_1 p P) (.node (k42_1 p P) (.node (k74_1 p P) .nil .nil) .nil) (.node (k58_1 p P) (.node (k90_1 p P) .nil .nil) .nil))) (.node (k14_0 p P) (.node (k22_1 p P) (.node (k38_1 p P) (.node (k70_1 p P) .nil .nil) .nil) (.node (k54_1 p P) (.node (k86_1 p P) .nil .nil) .nil)) (.node (k30_1 p P) (.node (k46_1 p P) (.node (k78_1 p P) .nil .nil) .nil) (.node (k62_1 p P) (.node (k94_1 p P) .nil .nil) .nil))))))
noncomputable def S1 (p : Program) (w : World) (os : OsState) : SharedT := ⟨T1 p w.params, 101, {}, #[], {}, 307, os⟩
def pos1 : Pos := ⟨25, 0, 25, 8⟩
noncomputable def k3_2 (p : Program) (P : Params) : Obj := ⟨.type "dict", none, .dict (List.toArray (en P "__name__" 165 (sv "thinstack.retransmit" 497) :: (ents3 P).take 20)) 21, #[]⟩
noncomputable def k12_2 (p : Program) (P : Params) : Obj := ⟨.none, none, .fields (List.toArray (vals12.take 33)), #[]⟩
noncomputable def k101_2 (p : Program) (P : Params) : Obj := ⟨.type "tuple", none, .seq #[] 0, #[]⟩
noncomputable def k102_2 (p : Program) (P : Params) : Obj := ⟨.type "builtin_function_or_method", none, .fields #[.builtin "type.__prepare__", .type "type"], #[]⟩
noncomputable def k103_2 (p : Program) (P : Params) : Obj := ⟨.type "dict", none, .dict (List.toArray [en P "__module__" 314 (sv "thinstack.acks" 305), en P "__qualname__" 316 (sv "AckPolicy" 315), en P "__firstlineno__" 318 (.int 26 317), en P "__init__" 326 (.ref 114), en P "on_octets" 336 (.ref 122), en P "at_once" 343 (.ref 129), en P "is_due" 351 (.ref 136), en P "on_sent" 358 (.ref 143), en P "due_time" 365 (.ref 150), en P "__static_attributes__" 370 (.ref 151)]) 10, #[]⟩
noncomputable def k104_2 (p : Program) (P : Params) : Obj := ⟨.type "tuple", none, .seq #[] 0, #[]⟩
noncomputable def k105_2 (p : Program) (P : Params) : Obj := ⟨.none, none, .fields #[.int 28 0, .int 4 0, .ref 113, .int 34 0, .int 4 0, .ref 121, .int 37 0, .int 4 0, .ref 128, .int 40 0, .int 4 0, .ref 135, .int 43 0, .int 4 0, .ref 142, .int 47 0, .int 4 0, .ref 149], #[]⟩
noncomputable def k106_2 (p : Program) (P : Params) : Obj := ⟨.type "code", none, .fields #[sv "AckPolicy" 309, sv "AckPolicy" 310, sv "/claim/cut.py" 311, .int 26 0, .int 0 0, .int 0 0, .int 0 0, .int 0 0, .ref 104, .bool false, .int 181 0, .ref 105, .none, .none, .none, .none, .int 312 0, .int 26 0, sv "/claim/cut.py" 313], #[]⟩
noncomputable def k107_2 (p : Program) (P : Params) : Obj := ⟨.type "frame", none, .plain, #[some (.ref 106), some (.ref 3), some (.ref 103), none, some (sv "thinstack.acks" 305), none, some (.ref 0)]⟩
noncomputable def k108_2 (p : Program) (P : Params) : Obj := ⟨.type "tuple", none, .seq #[] 0, #[]⟩
noncomputable def k109_2 (p : Program) (P : Params) : Obj := ⟨.none, none, .fields #[], #[]⟩
noncomputable def k110_2 (p : Program) (P : Params) : Obj := ⟨.type "tuple", none, .seq #[sv "self" 322, sv "delay" 323] 0, #[]⟩
noncomputable def k111_2 (p : Program) (P : Params) : Obj := ⟨.type "tuple", none, .seq #[] 0, #[]⟩
noncomputable def k112_2 (p : Program) (P : Params) : Obj := fc (st p 12 (some 0)) "AckPolicy.__init__"
noncomputable def k113_2 (p : Program) (P : Params) : Obj := ⟨.type "code", none, .fields #[sv "__init__" 319, sv "AckPolicy.__init__" 320, sv "/claim/cut.py" 321, .int 28 0, .int 2 0, .int 0 0, .int 0 0, .int 3 0, .ref 108, .bool true, .int 181 0, .ref 109, .none, .ref 110, .ref 111, .ref 112, .int 324 0, .int 28 0, sv "/claim/cut.py" 325], #[]⟩
noncomputable def k114_2 (p : Program) (P : Params) : Obj := fo (st p 12 (some 0)) "AckPolicy.__init__" (.none) (sv "thinstack.acks" 305) (.ref 113)
noncomputable def k115_2 (p : Program) (P : Params) : Obj := ⟨.type "tuple", none, .seq #[.bool false] 0, #[]⟩
noncomputable def k116_2 (p : Program) (P : Params) : Obj := ⟨.type "tuple", none, .seq #[] 0, #[]⟩
noncomputable def k117_2 (p : Program) (P : Params) : Obj := ⟨.none, none, .fields #[], #[]⟩
noncomputable def k118_2 (p : Program) (P : Params) : Obj := ⟨.type "tuple", none, .seq #[sv "self" 330, sv "in_order" 331, sv "now" 332, sv "has_holes" 333] 0, #[]⟩
noncomputable def k119_2 (p : Program) (P : Params) : Obj := ⟨.type "tuple", none, .seq #[] 0, #[]⟩
noncomputable def k120_2 (p : Program) (P : Params) : Obj := fc (st p 12 (some 1)) "AckPolicy.on_octets"
noncomputable def k121_2 (p : Program) (P : Params) : Obj := ⟨.type "code", none, .fields #[sv "on_octets" 327, sv "AckPolicy.on_octets" 328, sv "/claim/cut.py" 329, .int 34 0, .int 4 0, .int 0 0, .int 0 0, .int 3 0, .ref 116, .bool true, .int 181 0, .ref 117, .none, .ref 118, .ref 119, .ref 120, .int 334 0, .int 34 0, sv "/claim/cut.py" 335], #[]⟩
noncomputable def k122_2 (p : Program) (P : Params) : Obj := fo (st p 12 (some 1)) "AckPolicy.on_octets" (.ref 115) (sv "thinstack.acks" 305) (.ref 121)
noncomputable def k123_2 (p : Program) (P : Params) : Obj := ⟨.type "tuple", none, .seq #[] 0, #[]⟩
noncomputable def k124_2 (p : Program) (P : Params) : Obj := ⟨.none, none, .fields #[], #[]⟩
noncomputable def k125_2 (p : Program) (P : Params) : Obj := ⟨.type "tuple", none, .seq #[sv "self" 340] 0, #[]⟩
noncomputable def k126_2 (p : Program) (P : Params) : Obj := ⟨.type "tuple", none, .seq #[] 0, #[]⟩
noncomputable def k127_2 (p : Program) (P : Params) : Obj := fc (st p 12 (some 2)) "AckPolicy.at_once"
noncomputable def k128_2 (p : Program) (P : Params) : Obj := ⟨.type "code", none, .fields #[sv "at_once" 337, sv "AckPolicy.at_once" 338, sv "/claim/cut.py" 339, .int 37 0, .int 1 0, .int 0 0, .int 0 0, .int 3 0, .ref 123, .bool true, .int 181 0, .ref 124, .none, .ref 125, .ref 126, .ref 127, .int 341 0, .int 37 0, sv "/claim/cut.py" 342], #[]⟩
noncomputable def k129_2 (p : Program) (P : Params) : Obj := fo (st p 12 (some 2)) "AckPolicy.at_once" (.none) (sv "thinstack.acks" 305) (.ref 128)
noncomputable def k130_2 (p : Program) (P : Params) : Obj := ⟨.type "tuple", none, .seq #[] 0, #[]⟩
noncomputable def k131_2 (p : Program) (P : Params) : Obj := ⟨.none, none, .fields #[], #[]⟩
noncomputable def k132_2 (p : Program) (P : Params) : Obj := ⟨.type "tuple", none, .seq #[sv "self" 347, sv "now" 348] 0, #[]⟩
noncomputable def k133_2 (p : Program) (P : Params) : Obj := ⟨.type "tuple", none, .seq #[] 0, #[]⟩
noncomputable def k134_2 (p : Program) (P : Params) : Obj := fc (st p 12 (some 3)) "AckPolicy.is_due"
noncomputable def k135_2 (p : Program) (P : Params) : Obj := ⟨.type "code", none, .fields #[sv "is_due" 344, sv "AckPolicy.is_due" 345, sv "/claim/cut.py" 346, .int 40 0, .int 2 0, .int 0 0, .int 0 0, .int 3 0, .ref 130, .bool true, .int 181 0, .ref 131, .none, .ref 132, .ref 133, .ref 134, .int 349 0, .int 40 0, sv "/claim/cut.py" 350], #[]⟩
noncomputable def k136_2 (p : Program) (P : Params) : Obj := fo (st p 12 (some 3)) "AckPolicy.is_due" (.none) (sv "thinstack.acks" 305) (.ref 135)
noncomputable def k137_2 (p : Program) (P : Params) : Obj := ⟨.type "tuple", none, .seq #[] 0, #[]⟩
noncomputable def k138_2 (p : Program) (P : Params) : Obj := ⟨.none, none, .fields #[], #[]⟩
noncomputable def k139_2 (p : Program) (P : Params) : Obj := ⟨.type "tuple", none, .seq #[sv "self" 355] 0, #[]⟩
noncomputable def k140_2 (p : Program) (P : Params) : Obj := ⟨.type "tuple", none, .seq #[] 0, #[]⟩
noncomputable def k141_2 (p : Program) (P : Params) : Obj := fc (st p 12 (some 4)) "AckPolicy.on_sent"
noncomputable def k142_2 (p : Program) (P : Params) : Obj := ⟨.type "code", none, .fields #[sv "on_sent" 352, sv "AckPolicy.on_sent" 353, sv "/claim/cut.py" 354, .int 43 0, .int 1 0, .int 0 0, .int 0 0, .int 3 0, .ref 137, .bool true, .int 181 0, .ref 138, .none, .ref 139, .ref 140, .ref 141, .int 356 0, .int 43 0, sv "/claim/cut.py" 357], #[]⟩
noncomputable def k143_2 (p : Program) (P : Params) : Obj := fo (st p 12 (some 4)) "AckPolicy.on_sent" (.none) (sv "thinstack.acks" 305) (.ref 142)
noncomputable def k144_2 (p : Program) (P : Params) : Obj := ⟨.type "tuple", none, .seq #[] 0, #[]⟩
noncomputable def k145_2 (p : Program) (P : Params) : Obj := ⟨.none, none, .fields #[], #[]⟩
noncomputable def k146_2 (p : Program) (P : Params) : Obj := ⟨.type "tuple", none, .seq #[sv "self" 362] 0, #[]⟩
noncomputable def k147_2 (p : Program) (P : Params) : Obj := ⟨.type "tuple", none, .seq #[] 0, #[]⟩
noncomputable def k148_2 (p : Program) (P : Params) : Obj := fc (st p 12 (some 5)) "AckPolicy.due_time"
noncomputable def k149_2 (p : Program) (P : Params) : Obj := ⟨.type "code", none, .fields #[sv "due_time" 359, sv "AckPolicy.due_time" 360, sv "/claim/cut.py" 361, .int 47 0, .int 1 0, .int 0 0, .int 0 0, .int 3 0, .ref 144, .bool true, .int 181 0, .ref 145, .none, .ref 146, .ref 147, .ref 148, .int 363 0, .int 47 0, sv "/claim/cut.py" 364], #[]⟩
noncomputable def k150_2 (p : Program) (P : Params) : Obj := fo (st p 12 (some 5)) "AckPolicy.due_time" (.none) (sv "thinstack.acks" 305) (.ref 149)
noncomputable def k151_2 (p : Program) (P : Params) : Obj := ⟨.type "tuple", none, .seq #[sv "delay" 366, sv "due" 367, sv "has_gap" 368, sv "waiting" 369] 0, #[]⟩
noncomputable def k152_2 (p : Program) (P : Params) : Obj := ⟨.type "dict", none, .dict (List.toArray [en P "__module__" 314 (sv "thinstack.acks" 305), en P "__firstlineno__" 318 (.int 26 317), en P "__init__" 326 (.ref 114), en P "on_octets" 336 (.ref 122), en P "at_once" 343 (.ref 129), en P "is_due" 351 (.ref 136), en P "on_sent" 358 (.ref 143), en P "due_time" 365 (.ref 150), en P "__static_attributes__" 370 (.ref 151), en P "__dict__" 372 (.ref 154), en P "__weakref__" 374 (.ref 155), en P "__doc__" 375 (.none)]) 4, #[]⟩
noncomputable def k153_2 (p : Program) (P : Params) : Obj := ⟨.type "type", none, .cls { name := so "AckPolicy", bases := [.type "object"], mro := [.ref 153, .type "object"], ns := 152, qualname := so "AckPolicy", hasDict := true, slotNames := [], subclasses := [], abstract := false, collection := none, hasDel := false }, #[none, none, some (sv "AckPolicy" 307), some (sv "AckPolicy" 315), some (.builtin "object.__new__"), some (.bool true)]⟩
noncomputable def k154_2 (p : Program) (P : Params) : Obj := ⟨.type "getset_descriptor", none, .fields #[sv "__dict__" 371, .ref 153, .builtin "function.__dict__", .builtin "function.__dict__#set"], #[]⟩
noncomputable def k155_2 (p : Program) (P : Params) : Obj := ⟨.type "getset_descriptor", none, .fields #[sv "__weakref__" 373, .ref 153, .builtin "ExceptionGroup.__weakref__", .none], #[]⟩
noncomputable def k156_2 (p : Program) (P : Params) : Obj := ⟨.type "super", none, .fields #[.ref 153, .ref 153, .ref 153], #[]⟩
noncomputable def k157_2 (p : Program) (P : Params) : Obj := ⟨.type "builtin_function_or_method", none, .fields #[.builtin "object.__init_subclass__", .ref 153], #[]⟩
noncomputable def k158_2 (p : Program) (P : Params) : Obj := ⟨.type "tuple", none, .seq #[] 0, #[]⟩
noncomputable def k159_2 (p : Program) (P : Params) : Obj := ⟨.type "builtin_function_or_method", none, .fields #[.builtin "type.__prepare__", .type "type"], #[]⟩
noncomputable def k160_2 (p : Program) (P : Params) : Obj := ⟨.type "dict", none, .dict (List.toArray [en P "__module__" 387 (sv "thinstack.congestion" 378), en P "__qualname__" 389 (sv "Congestion" 388), en P "__firstlineno__" 391 (.int 50 390), en P "__init__" 401 (.ref 171), en P "window" 408 (.ref 178), en P "told_mss" 416 (.ref 185), en P "grow" 424 (.ref 192), en P "halved" 432 (.ref 199), en P "acked" 440 (.ref 206), en P "slow_start" 449 (.ref 213), en P "avoid" 457 (.ref 220), en P "duplicate" 465 (.ref 227), en P "recovered" 472 (.ref 234), en P "timed_out" 480 (.ref 241), en P "__static_attributes__" 489 (.ref 242)]) 15, #[]⟩
noncomputable def k161_2 (p : Program) (P : Params) : Obj := ⟨.type "tuple", none, .seq #[] 0, #[]⟩
noncomputable def k162_2 (p : Program) (P : Params) : Obj := ⟨.none, none, .fields #[.int 52 0, .int 4 0, .ref 170, .int 62 0, .int 4 0, .ref 177, .int 65 0, .int 4 0, .ref 184, .int 68 0, .int 4 0, .ref 191, .int 73 0, .int 4 0, .ref 198, .int 76 0, .int 4 0, .ref 205, .int 86 0, .int 4 0, .ref 212, .int 92 0, .int 4 0, .ref 219, .int 98 0, .int 4 0, .ref 226, .int 101 0, .int 4 0, .ref 233, .int 108 0, .int 4 0, .ref 240], #[]⟩
noncomputable def k163_2 (p : Program) (P : Params) : Obj := ⟨.type "code", none, .fields #[sv "Congestion" 382, sv "Congestion" 383, sv "/claim/cut.py" 384, .int 50 0, .int 0 0, .int 0 0, .int 0 0, .int 0 0, .ref 161, .bool false, .int 181 0, .ref 162, .none, .none, .none, .none, .int 385 0, .int 50 0, sv "/claim/cut.py" 386], #[]⟩
noncomputable def k164_2 (p : Program) (P : Params) : Obj := ⟨.type "frame", none, .plain, #[some (.ref 163), some (.ref 3), some (.ref 160), none, some (sv "thinstack.congestion" 378), none, some (.ref 0)]⟩
noncomputable def k165_2 (p : Program) (P : Params) : Obj := ⟨.type "tuple", none, .seq #[] 0, #[]⟩
noncomputable def k166_2 (p : Program) (P : Params) : Obj := ⟨.none, none, .fields #[], #[]⟩
noncomputable def k167_2 (p : Program) (P : Params) : Obj := ⟨.type "tuple", none, .seq #[sv "self" 395, sv "mss" 396, sv "first" 397, sv "most" 398] 0, #[]⟩
noncomputable def k168_2 (p : Program) (P : Params) : Obj := ⟨.type "tuple", none, .seq #[] 0, #[]⟩
noncomputable def k169_2 (p : Program) (P : Params) : Obj := fc (st p 14 (some 0)) "Congestion.__init__"
noncomputable def k170_2 (p : Program) (P : Params) : Obj := ⟨.type "code", none, .fields #[sv "__init__" 392, sv "Congestion.__init__" 393, sv "/claim/cut.py" 394, .int 52 0, .int 4 0, .int 0 0, .int 0 0, .int 3 0, .ref 165, .bool true, .int 181 0, .ref 166, .none, .ref 167, .ref 168, .ref 169, .int 399 0, .int 52 0, sv "/claim/cut.py" 400], #[]⟩
noncomputable def k171_2 (p : Program) (P : Params) : Obj := fo (st p 14 (some 0)) "Congestion.__init__" (.none) (sv "thinstack.congestion" 378) (.ref 170)
noncomputable def k172_2 (p : Program) (P : Params) : Obj := ⟨.type "tuple", none, .seq #[] 0, #[]⟩
noncomputable def k173_2 (p : Program) (P : Params) : Obj := ⟨.none, none, .fields #[], #[]⟩
noncomputable def k174_2 (p : Program) (P : Params) : Obj := ⟨.type "tuple", none, .seq #[sv "self" 405] 0, #[]⟩
noncomputable def k175_2 (p : Program) (P : Params) : Obj := ⟨.type "tuple", none, .seq #[] 0, #[]⟩
noncomputable def k176_2 (p : Program) (P : Params) : Obj := fc (st p 14 (some 1)) "Congestion.window"
noncomputable def k177_2 (p : Program) (P : Params) : Obj := ⟨.type "code", none, .fields #[sv "window" 402, sv "Congestion.window" 403, sv "/claim/cut.py" 404, .int 62 0, .int 1 0, .int 0 0, .int 0 0, .int 3 0, .ref 172, .bool true, .int 181 0, .ref 173, .none, .ref 174, .ref 175, .ref 176, .int 406 0, .int 62 0, sv "/claim/cut.py" 407], #[]⟩
noncomputable def k178_2 (p : Program) (P : Params) : Obj := fo (st p 14 (some 1)) "Congestion.window" (.none) (sv "thinstack.congestion" 378) (.ref 177)
noncomputable def k179_2 (p : Program) (P : Params) : Obj := ⟨.type "tuple", none, .seq #[] 0, #[]⟩
noncomputable def k180_2 (p : Program) (P : Params) : Obj := ⟨.none, none, .fields #[], #[]⟩
noncomputable def k181_2 (p : Program) (P : Params) : Obj := ⟨.type "tuple", none, .seq #[sv "self" 412, sv "mss" 413] 0, #[]⟩
noncomputable def k182_2 (p : Program) (P : Params) : Obj := ⟨.type "tuple", none, .seq #[] 0, #[]⟩
noncomputable def k183_2 (p : Program) (P : Params) : Obj := fc (st p 14 (some 2)) "Congestion.told_mss"
noncomputable def k184_2 (p : Program) (P : Params) : Obj := ⟨.type "code", none, .fields #[sv "told_mss" 409, sv "Congestion.told_mss" 410, sv "/claim/cut.py" 411, .int 65 0, .int 2 0, .int 0 0, .int 0 0, .int 3 0, .ref 179, .bool true, .int 181 0, .ref 180, .none, .ref 181, .ref 182, .ref 183, .int 414 0, .int 65 0, sv "/claim/cut.py" 415], #[]⟩
noncomputable def k185_2 (p : Program) (P : Params) : Obj := fo (st p 14 (some 2)) "Congestion.told_mss" (.none) (sv "thinstack.congestion" 378) (.ref 184)
noncomputable def k186_2 (p : Program) (P : Params) : Obj := ⟨.type "tuple", none, .seq #[] 0, #[]⟩
noncomputable def k187_2 (p : Program) (P : Params) : Obj := ⟨.none, none, .fields #[], #[]⟩
noncomputable def k188_2 (p : Program) (P : Params) : Obj := ⟨.type "tuple", none, .seq #[sv "self" 420, sv "octets" 421] 0, #[]⟩
noncomputable def k189_2 (p : Program) (P : Params) : Obj := ⟨.type "tuple", none, .seq #[] 0, #[]⟩
noncomputable def k190_2 (p : Program) (P : Params) : Obj := fc (st p 14 (some 3)) "Congestion.grow"
noncomputable def k191_2 (p : Program) (P : Params) : Obj := ⟨.type "code", none, .fields #[sv "grow" 417, sv "Congestion.grow" 418, sv "/claim/cut.py" 419, .int 68 0, .int 2 0, .int 0 0, .int 0 0, .int 3 0, .ref 186, .bool true, .int 181 0, .ref 187, .none, .ref 188, .ref 189, .ref 190, .int 422 0, .int 68 0, sv "/claim/cut.py" 423], #[]⟩
noncomputable def k192_2 (p : Program) (P : Params) : Obj := fo (st p 14 (some 3)) "Congestion.grow" (.none) (sv "thinstack.congestion" 378) (.ref 191)
noncomputable def k193_2 (p : Program) (P : Params) : Obj := ⟨.type "tuple", none, .seq #[] 0, #[]⟩
noncomputable def k194_2 (p : Program) (P : Params) : Obj := ⟨.none, none, .fields #[], #[]⟩
noncomputable def k195_2 (p : Program) (P : Params) : Obj := ⟨.type "tuple", none, .seq #[sv "self" 428, sv "flight" 429] 0, #[]⟩
noncomputable def k196_2 (p : Program) (P : Params) : Obj := ⟨.type "tuple", none, .seq #[] 0, #[]⟩
noncomputable def k197_2 (p : Program) (P : Params) : Obj := fc (st p 14 (some 4)) "Congestion.halved"
noncomputable def k198_2 (p : Program) (P : Params) : Obj := ⟨.type "code", none, .fields #[sv "halved" 425, sv "Congestion.halved" 426, sv "/claim/cut.py" 427, .int 73 0, .int 2 0, .int 0 0, .int 0 0, .int 3 0, .ref 193, .bool true, .int 181 0, .ref 194, .none, .ref 195, .ref 196, .ref 197, .int 430 0, .int 73 0, sv "/claim/cut.py" 431], #[]⟩
noncomputable def k199_2 (p : Program) (P : Params) : Obj := fo (st p 14 (some 4)) "Congestion.halved" (.none) (sv "thinstack.congestion" 378) (.ref 198)
noncomputable def k200_2 (p : Program) (P : Params) : Obj := ⟨.type "tuple", none, .seq #[] 0, #[]⟩
noncomputable def k201_2 (p : Program) (P : Params) : Obj := ⟨.none, none, .fields #[], #[]⟩
noncomputable def k202_2 (p : Program) (P : Params) : Obj := ⟨.type "tuple", none, .seq #[sv "self" 436, sv "octets" 437] 0, #[]⟩
noncomputable def k203_2 (p : Program) (P : Params) : Obj := ⟨.type "tuple", none, .seq #[] 0, #[]⟩
noncomputable def k204_2 (p : Program) (P : Params) : Obj := fc (st p 14 (some 5)) "Congestion.acked"
noncomputable def k205_2 (p : Program) (P : Params) : Obj := ⟨.type "code", none, .fields #[sv "acked" 433, sv "Congestion.acked" 434, sv "/claim/cut.py" 435, .int 76 0, .int 2 0, .int 0 0, .int 0 0, .int 3 0, .ref 200, .bool true, .int 181 0, .ref 201, .none, .ref 202, .ref 203, .ref 204, .int 438 0, .int 76 0, sv "/claim/cut.py" 439], #[]⟩
noncomputable def k206_2 (p : Program) (P : Params) : Obj := fo (st p 14 (some 5)) "Congestion.acked" (.none) (sv "thinstack.congestion" 378) (.ref 205)
noncomputable def k207_2 (p : Program) (P : Params) : Obj := ⟨.type "tuple", none, .seq #[] 0, #[]⟩
noncomputable def k208_2 (p : Program) (P : Params) : Obj := ⟨.none, none, .fields #[], #[]⟩
noncomputable def k209_2 (p : Program) (P : Params) : Obj := ⟨.type "tuple", none, .seq #[sv "self" 444, sv "octets" 445, sv "most" 446] 0, #[]⟩
noncomputable def k210_2 (p : Program) (P : Params) : Obj := ⟨.type "tuple", none, .seq #[] 0, #[]⟩
noncomputable def k211_2 (p : Program) (P : Params) : Obj := fc (st p 14 (some 6)) "Congestion.slow_start"
noncomputable def k212_2 (p : Program) (P : Params) : Obj := ⟨.type "code", none, .fields #[sv "slow_start" 441, sv "Congestion.slow_start" 442, sv "/claim/cut.py" 443, .int 86 0, .int 2 0, .int 0 0, .int 0 0, .int 3 0, .ref 207, .bool true, .int 181 0, .ref 208, .none, .ref 209, .ref 210, .ref 211, .int 447 0, .int 86 0, sv "/claim/cut.py" 448], #[]⟩
noncomputable def k213_2 (p : Program) (P : Params) : Obj := fo (st p 14 (some 6)) "Congestion.slow_start" (.none) (sv "thinstack.congestion" 378) (.ref 212)
noncomputable def k214_2 (p : Program) (P : Params) : Obj := ⟨.type "tuple", none, .seq #[] 0, #[]⟩
noncomputable def k215_2 (p : Program) (P : Params) : Obj := ⟨.none, none, .fields #[], #[]⟩
noncomputable def k216_2 (p : Program) (P : Params) : Obj := ⟨.type "tuple", none, .seq #[sv "self" 453, sv "octets" 454] 0, #[]⟩
noncomputable def k217_2 (p : Program) (P : Params) : Obj := ⟨.type "tuple", none, .seq #[] 0, #[]⟩
noncomputable def k218_2 (p : Program) (P : Params) : Obj := fc (st p 14 (some 7)) "Congestion.avoid"
noncomputable def k219_2 (p : Program) (P : Params) : Obj := ⟨.type "code", none, .fields #[sv "avoid" 450, sv "Congestion.avoid" 451, sv "/claim/cut.py" 452, .int 92 0, .int 2 0, .int 0 0, .int 0 0, .int 3 0, .ref 214, .bool true, .int 181 0, .ref 215, .none, .ref 216, .ref 217, .ref 218, .int 455 0, .int 92 0, sv "/claim/cut.py" 456], #[]⟩
noncomputable def k220_2 (p : Program) (P : Params) : Obj := fo (st p 14 (some 7)) "Congestion.avoid" (.none) (sv "thinstack.congestion" 378) (.ref 219)
noncomputable def k221_2 (p : Program) (P : Params) : Obj := ⟨.type "tuple", none, .seq #[] 0, #[]⟩
noncomputable def k222_2 (p : Program) (P : Params) : Obj := ⟨.none, none, .fields #[], #[]⟩
noncomputable def k223_2 (p : Program) (P : Params) : Obj := ⟨.type "tuple", none, .seq #[sv "self" 461, sv "flight" 462] 0, #[]⟩
noncomputable def k224_2 (p : Program) (P : Params) : Obj := ⟨.type "tuple", none, .seq #[] 0, #[]⟩
noncomputable def k225_2 (p : Program) (P : Params) : Obj := fc (st p 14 (some 8)) "Congestion.duplicate"
noncomputable def k226_2 (p : Program) (P : Params) : Obj := ⟨.type "code", none, .fields #[sv "duplicate" 458, sv "Congestion.duplicate" 459, sv "/claim/cut.py" 460, .int 98 0, .int 2 0, .int 0 0, .int 0 0, .int 3 0, .ref 221, .bool true, .int 181 0, .ref 222, .none, .ref 223, .ref 224, .ref 225, .int 463 0, .int 98 0, sv "/claim/cut.py" 464], #[]⟩
noncomputable def k227_2 (p : Program) (P : Params) : Obj := fo (st p 14 (some 8)) "Congestion.duplicate" (.none) (sv "thinstack.congestion" 378) (.ref 226)
noncomputable def k228_2 (p : Program) (P : Params) : Obj := ⟨.type "tuple", none, .seq #[] 0, #[]⟩
noncomputable def k229_2 (p : Program) (P : Params) : Obj := ⟨.none, none, .fields #[], #[]⟩
noncomputable def k230_2 (p : Program) (P : Params) : Obj := ⟨.type "tuple", none, .seq #[sv "self" 469] 0, #[]⟩
noncomputable def k231_2 (p : Program) (P : Params) : Obj := ⟨.type "tuple", none, .seq #[] 0, #[]⟩
noncomputable def k232_2 (p : Program) (P : Params) : Obj := fc (st p 14 (some 9)) "Congestion.recovered"
noncomputable def k233_2 (p : Program) (P : Params) : Obj := ⟨.type "code", none, .fields #[sv "recovered" 466, sv "Congestion.recovered" 467, sv "/claim/cut.py" 468, .int 101 0, .int 1 0, .int 0 0, .int 0 0, .int 3 0, .ref 228, .bool true, .int 181 0, .ref 229, .none, .ref 230, .ref 231, .ref 232, .int 470 0, .int 101 0, sv "/claim/cut.py" 471], #[]⟩
noncomputable def k234_2 (p : Program) (P : Params) : Obj := fo (st p 14 (some 9)) "Congestion.recovered" (.none) (sv "thinstack.congestion" 378) (.ref 233)
noncomputable def k235_2 (p : Program) (P : Params) : Obj := ⟨.type "tuple", none, .seq #[] 0, #[]⟩
noncomputable def k236_2 (p : Program) (P : Params) : Obj := ⟨.none, none, .fields #[], #[]⟩
noncomputable def k237_2 (p : Program) (P : Params) : Obj := ⟨.type "tuple", none, .seq #[sv "self" 476, sv "flight" 477] 0, #[]⟩
noncomputable def k238_2 (p : Program) (P : Params) : Obj := ⟨.type "tuple", none, .seq #[] 0, #[]⟩
noncomputable def k239_2 (p : Program) (P : Params) : Obj := fc (st p 14 (some 10)) "Congestion.timed_out"
noncomputable def k240_2 (p : Program) (P : Params) : Obj := ⟨.type "code", none, .fields #[sv "timed_out" 473, sv "Congestion.timed_out" 474, sv "/claim/cut.py" 475, .int 108 0, .int 2 0, .int 0 0, .int 0 0, .int 3 0, .ref 235, .bool true, .int 181 0, .ref 236, .none, .ref 237, .ref 238, .ref 239, .int 478 0, .int 108 0, sv "/claim/cut.py" 479], #[]⟩
noncomputable def k241_2 (p : Program) (P : Params) : Obj := fo (st p 14 (some 10)) "Congestion.timed_out" (.none) (sv "thinstack.congestion" 378) (.ref 240)
noncomputable def k242_2 (p : Program) (P : Params) : Obj := ⟨.type "tuple", none, .seq #[sv "duplicates" 481, sv "gathered" 482, sv "is_cautious" 483, sv "is_recovering" 484, sv "most" 485, sv "mss" 486, sv "size" 487, sv "threshold" 488] 0, #[]⟩
noncomputable def k243_2 (p : Program) (P : Params) : Obj := ⟨.type "dict", none, .dict (List.toArray [en P "__module__" 387 (sv "thinstack.congestion" 378), en P "__firstlineno__" 391 (.int 50 390), en P "__init__" 401 (.ref 171), en P "window" 408 (.ref 178), en P "told_mss" 416 (.ref 185), en P "grow" 424 (.ref 192), en P "halved" 432 (.ref 199), en P "acked" 440 (.ref 206), en P "slow_start" 449 (.ref 213), en P "avoid" 457 (.ref 220), en P "duplicate" 465 (.ref 227), en P "recovered" 472 (.ref 234), en P "timed_out" 480 (.ref 241), en P "__static_attributes__" 489 (.ref 242), en P "__dict__" 491 (.ref 245), en P "__weakref__" 493 (.ref 246), en P "__doc__" 494 (.none)]) 4, #[]⟩
noncomputable def k244_2 (p : Program) (P : Params) : Obj := ⟨.type "type", none, .cls { name := so "Congestion", bases := [.type "object"], mro := [.ref 244, .type "object"], ns := 243, qualname := so "Congestion", hasDict := true, slotNames := [], subclasses := [], abstract := false, collection := none, hasDel := false }, #[none, none, some (sv "Congestion" 380), some (sv "Congestion" 388), some (.builtin "object.__new__"), some (.bool true)]⟩
noncomputable def k245_2 (p : Program) (P : Params) : Obj := ⟨.type "getset_descriptor", none, .fields #[sv "__dict__" 490, .ref 244, .builtin "function.__dict__", .builtin "function.__dict__#set"], #[]⟩
noncomputable def k246_2 (p : Program) (P : Params) : Obj := ⟨.type "getset_descriptor", none, .fields #[sv "__weakref__" 492, .ref 244, .builtin "ExceptionGroup.__weakref__", .none], #[]⟩
noncomputable def k247_2 (p : Program) (P : Params) : Obj := ⟨.type "super", none, .fields #[.ref 244, .ref 244, .ref 244], #[]⟩
noncomputable def k248_2 (p : Program) (P : Params) : Obj := ⟨.type "builtin_function_or_method", none, .fields #[.builtin "object.__init_subclass__", .ref 244], #[]⟩
noncomputable def T2 (p : Program) (P : Params) : BT := (.node (k0_0 p P) (.node (k1_1 p P) (.node (k3_2 p P) (.node (k7_1 p P) (.node (k15_1 p P) (.node (k31_1 p P) (.node (k63_1 p P) (.node (k127_2 p P) .nil .nil) (.node (k191_2 p P) .nil .nil)) (.node (k95_1 p P) (.node (k159_2 p P) .nil .nil) (.node (k223_2 p P) .nil .nil))) (.node (k47_1 p P) (.node (k79_1 p P) (.node (k143_2 p P) .nil .nil) (.node (k207_2 p P) .nil .nil)) (.node (k111_2 p P) (.node (k175_2 p P) .nil .nil) (.node (k239_2 p P) .nil .nil)))) (.node (k23_1 p P) (.node (k39_1 p P) (.node (k71_1 p P) (.node (k135_2 p P) .nil .nil) (.node (k199_2 p P) .nil .nil)) (.node (k103_2 p P) (.node (k167_2 p P) .nil .nil) (.node (k231_2 p P) .nil .nil))) (.node (k55_1 p P) (.node (k87_1 p P) (.node (k151_2 p P) .nil .nil) (.node (k215_2 p P) .nil .nil)) (.node (k119_2 p P) (.node (k183_2 p P) .nil .nil) (.node (k247_2 p P) .nil .nil))))) (.node (k11_0 p P) (.node (k19_1 p P) (.node (k35_1 p P) (.node (k67_1 p P) (.node (k131_2 p P) .nil .nil) (.node (k195_2 p P) .nil .nil)) (.node (k99_1 p P) (.node (k163_2 p P) .nil .nil) (.node (k227_2 p P) .nil .nil))) (.node (k51_1 p P) (.node (k83_1 p P) (.node (k147_2 p P) .nil .nil) (.node (k211_2 p P) .nil .nil)) (.node (k115_2 p P) (.node (k179_2 p P) .nil .nil) (.node (k243_2 p P) .nil .nil)))) (.node (k27_1 p P) (.node (k43_1 p P) (.node (k75_1 p P) (.node (k139_2 p P) .nil .nil) (.node (k203_2 p P) .nil .nil)) (.node (k107_2 p P) (.node (k171_2 p P) .nil .nil) (.node (k235_2 p P) .nil .nil))) (.node (k59_1 p P) (.node (k91_1 p P) (.node (k155_2 p P) .nil .nil) (.node (k219_2 p P) .nil .nil)) (.node (k123_2 p P) (.node (k187_2 p P) .nil .nil) .nil))))) (.node (k5_1 p P) (.node (k9_1 p P) (.node (k17_1 p P) (.node (k33_1 p P) (.node (k65_1 p P) (.node (k129_2 p P) .nil .nil) (.node (k193_2 p P) .nil .nil)) (.node (k97_1 p P) (.node (k161_2 p P) .nil .nil) (.node (k225_2 p P) .nil .nil))) (.node (k49_1 p P) (.node (k81_1 p P) (.node (k145_2 p P) .nil .nil) (.node (k209_2 p P) .nil .nil)) (.node (k113_2 p P) (.node (k177_2 p P) .nil .nil) (.node (k241_2 p P) .nil .nil)))) (.node (k25_1 p P) (.node (k41_1 p P) (.node (k73_1 p P) (.node (k137_2 p P) .nil .nil) (.node (k201_2 p P) .nil .nil)) (.node (k105_2 p P) (.node (k169_2 p P) .nil .nil) (.node (k233_2 p P) .nil .nil))) (.node (k57_1 p P) (.node (k89_1 p P) (.node (k153_2 p P) .nil .nil) (.node (k217_2 p P) .nil .nil)) (.node (k121_2 p P) (.node (k185_2 p P) .nil .nil) .nil)))) (.node (k13_0 p P) (.node (k21_1 p P) (.node (k37_1 p P) (.node (k69_1 p P) (.node (k133_2 p P) .nil .nil) (.node (k197_2 p P) .nil .nil)) (.node (k101_2 p P) (.node (k165_2 p P) .nil .nil) (.node (k229_2 p P) .nil .nil))) (.node (k53_1 p P) (.node (k85_1 p P) (.node (k149_2 p P) .nil .nil) (.node (k213_2 p P) .nil .nil)) (.node (k117_2 p P) (.node (k181_2 p P) .nil .nil) (.node (k245_2 p P) .nil .nil)))) (.node (k29_1 p P) (.node (k45_1 p P) (.node (k77_1 p P) (.node (k141_2 p P) .nil .nil) (.node (k205_2 p P) .nil .nil)) (.node (k109_2 p P) (.node (k173_2 p P) .nil .nil) (.node (k237_2 p P) .nil .nil))) (.node (k61_1 p P) (.node (k93_1 p P) (.node (k157_2 p P) .nil .nil) (.node (k221_2 p P) .nil .nil)) (.node (k125_2 p P) (.node (k189_2 p P) .nil .nil) .nil)))))) (.node (k2_1 p P) (.node (k4_1 p P) (.node (k8_1 p P) (.node (k16_1 p P) (.node (k32_1 p P) (.node (k64_1 p P) (.node (k128_2 p P) .nil .nil) (.node (k192_2 p P) .nil .nil)) (.node (k96_1 p P) (.node (k160_2 p P) .nil .nil) (.node (k224_2 p P) .nil .nil))) (.node (k48_1 p P) (.node (k80_1 p P) (.node (k144_2 p P) .nil .nil) (.node (k208_2 p P) .nil .nil)) (.node (k112_2 p P) (.node (k176_2 p P) .nil .nil) (.node (k240_2 p P) .nil .nil)))) (.node (k24_1 p P) (.node (k40_1 p P) (.node (k72_1 p P) (.node (k136_2 p P) .nil .nil) (.node (k200_2 p P) .nil .nil)) (.node (k104_2 p P) (.node (k168_2 p P) .nil .nil) (.node (k232_2 p P) .nil .nil))) (.node (k56_1 p P) (.node (k88_1 p P) (.node (k152_2 p P) .nil .nil) (.node (k216_2 p P) .nil .nil)) (.node (k120_2 p P) (.node (k184_2 p P) .nil .nil) (.node (k248_2 p P) .nil .nil))))) (.node (k12_2 p P) (.node (k20_1 p P) (.node (k36_1 p P) (.node (k68_1 p P) (.node (k132_2 p P) .nil .nil) (.node (k196_2 p P) .nil .nil)) (.node (k100_1 p P) (.node (k164_2 p P) .nil .nil) (.node (k228_2 p P) .nil .nil))) (.node (k52_1 p P) (.node (k84_1 p P) (.node (k148_2 p P) .nil .nil) (.node (k212_2 p P) .nil .nil)) (.node (k116_2 p P) (.node (k180_2 p P) .nil .nil) (.node (k244_2 p P) .nil .nil)))) (.node (k28_1 p P) (.node (k44_1 p P) (.node (k76_1 p P) (.node (k140_2 p P) .nil .nil) (.node (k204_2 p P) .nil .nil)) (.node (k108_2 p P) (.node (k172_2 p P) .nil .nil) (.node (k236_2 p P) .nil .nil))) (.node (k60_1 p P) (.node (k92_1 p P) (.node (k156_2 p P) .nil .nil) (.node (k220_2 p P) .nil .nil)) (.node (k124_2 p P) (.node (k188_2 p P) .nil .nil) .nil))))) (.node (k6_1 p P) (.node (k10_1 p P) (.node (k18_1 p P) (.node (k34_1 p P) (.node (k66_1 p P) (.node (k130_2 p P) .nil .nil) (.node (k194_2 p P) .nil .nil)) (.node (k98_1 p P) (.node (k162_2 p P) .nil .nil) (.node (k226_2 p P) .nil .nil))) (.node (k50_1 p P) (.node (k82_1 p P) (.node (k146_2 p P) .nil .nil) (.node (k210_2 p P) .nil .nil)) (.node (k114_2 p P) (.node (k178_2 p P) .nil .nil) (.node (k242_2 p P) .nil .nil)))) (.node (k26_1 p P) (.node (k42_1 p P) (.node (k74_1 p P) (.node (k138_2 p P) .nil .nil) (.node (k202_2 p P) .nil .nil)) (.node (k106_2 p P) (.node (k170_2 p P) .nil .nil) (.node (k234_2 p P) .nil .nil))) (.node (k58_1 p P) (.node (k90_1 p P) (.node (k154_2 p P) .nil .nil) (.node (k218_2 p P) .nil .nil)) (.node (k122_2 p P) (.node (k186_2 p P) .nil .nil) .nil)))) (.node (k14_0 p P) (.node (k22_1 p P) (.node (k38_1 p P) (.node (k70_1 p P) (.node (k134_2 p P) .nil .nil) (.node (k198_2 p P) .nil .nil)) (.node (k102_2 p P) (.node (k166_2 p P) .nil .nil) (.node (k230_2 p P) .nil .nil))) (.node (k54_1 p P) (.node (k86_1 p P) (.node (k150_2 p P) .nil .nil) (.node (k214_2 p P) .nil .nil)) (.node (k118_2 p P) (.node (k182_2 p P) .nil .nil) (.node (k246_2 p P) .nil .nil)))) (.node (k30_1 p P) (.node (k46_1 p P) (.node (k78_1 p P) (.node (k142_2 p P) .nil .nil) (.node (k206_2 p P) .nil .nil)) (.node (k110_2 p P) (.node (k174_2 p P) .nil .nil) (.node (k238_2 p P) .nil .nil))) (.node (k62_1 p P) (.node (k94_1 p P) (.node (k158_2 p P) .nil .nil) (.node (k222_2 p P) .nil .nil)) (.node (k126_2 p P) (.node (k190_2 p P) .nil .nil) .nil)))))))
noncomputable def S2 (p : Program) (w : World) (os : OsState) : SharedT := ⟨T2 p w.params, 249, {}, #[], {}, 501, os⟩
def pos2 : Pos := ⟨111, 0, 111, 21⟩
noncomputable def k3_3 (p : Program) (P : Params) : Obj := ⟨.type "dict", none, .dict (List.toArray (en P "__name__" 165 (sv "thinstack.send_queue" 676) :: (ents3 P).take 22)) 23, #[]⟩
noncomputable def k12_3 (p : Program) (P : Params) : Obj := ⟨.none, none, .fields (List.toArray (vals12.take 39)), #[]⟩
noncomputable def k249_3 (p : Program) (P : Params) : Obj := ⟨.type "tuple", none, .seq #[] 0, #[]⟩
noncomputable def k250_3 (p : Program) (P : Params) : Obj := ⟨.type "builtin_function_or_method", none, .fields #[.builtin "type.__prepare__", .type "type"], #[]⟩
noncomputable def k251_3 (p : Program) (P : Params) : Obj := ⟨.type "dict", none, .dict (List.toArray [en P "__module__" 508 (sv "thinstack.retransmit" 497), en P "__qualname__" 510 (sv "RetransmitClock" 509), en P "__firstlineno__" 512 (.int 112 511), en P "__init__" 521 (.ref 262), en P "is_timing" 528 (.ref 269), en P "sent" 537 (.ref 276), en P "forget" 544 (.ref 283), en P "acked" 555 (.ref 290), en P "back_off" 562 (.ref 297), en P "reset_tries" 569 (.ref 304), en P "waited" 578 (.ref 311), en P "deadline" 586 (.ref 318), en P "__static_attributes__" 592 (.ref 319)]) 13, #[]⟩
noncomputable def k252_3 (p : Program) (P : Params) : Obj := ⟨.type "tuple", none, .seq #[] 0, #[]⟩
noncomputable def k253_3 (p : Program) (P : Params) : Obj := ⟨.none, none, .fields #[.int 114 0, .int 4 0, .ref 261, .int 121 0, .int 4 0, .ref 268, .int 124 0, .int 4 0, .ref 275, .int 129 0, .int 4 0, .ref 282, .int 132 0, .int 4 0, .ref 289, .int 141 0, .int 4 0, .ref 296, .int 146 0, .int 4 0, .ref 303, .int 149 0, .int 4 0, .ref 310, .int 155 0, .int 4 0, .ref 317], #[]⟩
noncomputable def k254_3 (p : Program) (P : Params) : Obj := ⟨.type "code", none, .fields #[sv "RetransmitClock" 503, sv "RetransmitClock" 504, sv "/claim/cut.py" 505, .int 112 0, .int 0 0, .int 0 0, .int 0 0, .int 0 0, .ref 252, .bool false, .int 181 0, .ref 253, .none, .none, .none, .none, .int 506 0, .int 112 0, sv "/claim/cut.py" 507], #[]⟩
noncomputable def k255_3 (p : Program) (P : Params) : Obj := ⟨.type "frame", none, .plain, #[some (.ref 254), some (.ref 3), some (.ref 251), none, some (sv "thinstack.retransmit" 497), none, some (.ref 0)]⟩
noncomputable def k256_3 (p : Program) (P : Params) : Obj := ⟨.type "tuple", none, .seq #[] 0, #[]⟩
noncomputable def k257_3 (p : Program) (P : Params) : Obj := ⟨.none, none, .fields #[], #[]⟩
noncomputable def k258_3 (p : Program) (P : Params) : Obj := ⟨.type "tuple", none, .seq #[sv "self" 516, sv "estimate" 517, sv "most_tries" 518] 0, #[]⟩
noncomputable def k259_3 (p : Program) (P : Params) : Obj := ⟨.type "tuple", none, .seq #[] 0, #[]⟩
noncomputable def k260_3 (p : Program) (P : Params) : Obj := fc (st p 17 (some 0)) "RetransmitClock.__init__"
noncomputable def k261_3 (p : Program) (P : Params) : Obj := ⟨.type "code", none, .fields #[sv "__init__" 513, sv "RetransmitClock.__init__" 514, sv "/claim/cut.py" 515, .int 114 0, .int 3 0, .int 0 0, .int 0 0, .int 3 0, .ref 256, .bool true, .int 181 0, .ref 257, .none, .ref 258, .ref 259, .ref 260, .int 519 0, .int 114 0, sv "/claim/cut.py" 520], #[]⟩
noncomputable def k262_3 (p : Program) (P : Params) : Obj := fo (st p 17 (some 0)) "RetransmitClock.__init__" (.none) (sv "thinstack.retransmit" 497) (.ref 261)
noncomputable def k263_3 (p : Program) (P : Params) : Obj := ⟨.type "tuple", none, .seq #[] 0, #[]⟩
noncomputable def k264_3 (p : Program) (P : Params) : Obj := ⟨.none, none, .fields #[], #[]⟩
noncomputable def k265_3 (p : Program) (P : Params) : Obj := ⟨.type "tuple", none, .seq #[sv "self" 525] 0, #[]⟩
noncomputable def k266_3 (p : Program) (P : Params) : Obj := ⟨.type "tuple", none, .seq #[] 0, #[]⟩
noncomputable def k267_3 (p : Program) (P : Params) : Obj := fc (st p 17 (some 1)) "RetransmitClock.is_timing"
noncomputable def k268_3 (p : Program) (P : Params) : Obj := ⟨.type "code", none, .fields #[sv "is_timing" 522, sv "RetransmitClock.is_timing" 523, sv "/claim/cut.py" 524, .int 121 0, .int 1 0, .int 0 0, .int 0 0, .int 3 0, .ref 263, .bool true, .int 181 0, .ref 264, .none, .ref 265, .ref 266, .ref 267, .int 526 0, .int 121 0, sv "/claim/cut.py" 527], #[]⟩
noncomputable def k269_3 (p : Program) (P : Params) : Obj := fo (st p 17 (some 1)) "RetransmitClock.is_timing" (.none) (sv "thinstack.retransmit" 497) (.ref 268)
noncomputable def k270_3 (p : Program) (P : Params) : Obj := ⟨.type "tuple", none, .seq #[] 0, #[]⟩
noncomputable def k271_3 (p : Program) (P : Params) : Obj := ⟨.none, none, .fields #[], #[]⟩
noncomputable def k272_3 (p : Program) (P : Params) : Obj := ⟨.type "tuple", none, .seq #[sv "self" 532, sv "seq_end" 533, sv "now" 534] 0, #[]⟩
noncomputable def k273_3 (p : Program) (P : Params) : Obj := ⟨.type "tuple", none, .seq #[] 0, #[]⟩
noncomputable def k274_3 (p : Program) (P : Params) : Obj := fc (st p 17 (some 2)) "RetransmitClock.sent"
noncomputable def k275_3 (p : Program) (P : Params) : Obj := ⟨.type "code", none, .fields #[sv "sent" 529, sv "RetransmitClock.sent" 530, sv "/claim/cut.py" 531, .int 124 0, .int 3 0, .int 0 0, .int 0 0, .int 3 0, .ref 270, .bool true, .int 181 0, .ref 271, .none, .ref 272, .ref 273, .ref 274, .int 535 0, .int 124 0, sv "/claim/cut.py" 536], #[]⟩
noncomputable def k276_3 (p : Program) (P : Params) : Obj := fo (st p 17 (some 2)) "RetransmitClock.sent" (.none) (sv "thinstack.retransmit" 497) (.ref 275)
noncomputable def k277_3 (p : Program) (P : Params) : Obj := ⟨.type "tuple", none, .seq #[] 0, #[]⟩
noncomputable def k278_3 (p : Program) (P : Params) : Obj := ⟨.none, none, .fields #[], #[]⟩
noncomputable def k279_3 (p : Program) (P : Params) : Obj := ⟨.type "tuple", none, .seq #[sv "self" 541] 0, #[]⟩
noncomputable def k280_3 (p : Program) (P : Params) : Obj := ⟨.type "tuple", none, .seq #[] 0, #[]⟩
noncomputable def k281_3 (p : Program) (P : Params) : Obj := fc (st p 17 (some 3)) "RetransmitClock.forget"
noncomputable def k282_3 (p : Program) (P : Params) : Obj := ⟨.type "code", none, .fields #[sv "forget" 538, sv "RetransmitClock.forget" 539, sv "/claim/cut.py" 540, .int 129 0, .int 1 0, .int 0 0, .int 0 0, .int 3 0, .ref 277, .bool true, .int 181 0, .ref 278, .none, .ref 279, .ref 280, .ref 281, .int 542 0, .int 129 0, sv "/claim/cut.py" 543], #[]⟩
noncomputable def k283_3 (p : Program) (P : Params) : Obj := fo (st p 17 (some 3)) "RetransmitClock.forget" (.none) (sv "thinstack.retransmit" 497) (.ref 282)
noncomputable def k284_3 (p : Program) (P : Params) : Obj := ⟨.type "tuple", none, .seq #[] 0, #[]⟩
noncomputable def k285_3 (p : Program) (P : Params) : Obj := ⟨.none, none, .fields #[], #[]⟩
noncomputable def k286_3 (p : Program) (P : Params) : Obj := ⟨.type "tuple", none, .seq #[sv "self" 548, sv "ack" 549, sv "now" 550, sv "ring" 551, sv "measured" 552] 0, #[]⟩
noncomputable def k287_3 (p : Program) (P : Params) : Obj := ⟨.type "tuple", none, .seq #[] 0, #[]⟩
noncomputable def k288_3 (p : Program) (P : Params) : Obj := fc (st p 17 (some 4)) "RetransmitClock.acked"
noncomputable def k289_3 (p : Program) (P : Params) : Obj := ⟨.type "code", none, .fields #[sv "acked" 545, sv "RetransmitClock.acked" 546, sv "/claim/cut.py" 547, .int 132 0, .int 4 0, .int 0 0, .int 0 0, .int 3 0, .ref 284, .bool true, .int 181 0, .ref 285, .none, .ref 286, .ref 287, .ref 288, .int 553 0, .int 132 0, sv "/claim/cut.py" 554], #[]⟩
noncomputable def k290_3 (p : Program) (P : Params) : Obj := fo (st p 17 (some 4)) "RetransmitClock.acked" (.none) (sv "thinstack.retransmit" 497) (.ref 289)
noncomputable def k291_3 (p : Program) (P : Params) : Obj := ⟨.type "tuple", none, .seq #[] 0, #[]⟩
noncomputable def k292_3 (p : Program) (P : Params) : Obj := ⟨.none, none, .fields #[], #[]⟩
noncomputable def k293_3 (p : Program) (P : Params) : Obj := ⟨.type "tuple", none, .seq #[sv "self" 559] 0, #[]⟩
noncomputable def k294_3 (p : Program) (P : Params) : Obj := ⟨.type "tuple", none, .seq #[] 0, #[]⟩
noncomputable def k295_3 (p : Program) (P : Params) : Obj := fc (st p 17 (some 5)) "RetransmitClock.back_off"
noncomputable def k296_3 (p : Program) (P : Params) : Obj := ⟨.type "code", none, .fields #[sv "back_off" 556, sv "RetransmitClock.back_off" 557, sv "/claim/cut.py" 558, .int 141 0, .int 1 0, .int 0 0, .int 0 0, .int 3 0, .ref 291, .bool true, .int 181 0, .ref 292, .none, .ref 293, .ref 294, .ref 295, .int 560 0, .int 141 0, sv "/claim/cut.py" 561], #[]⟩
noncomputable def k297_3 (p : Program) (P : Params) : Obj := fo (st p 17 (some 5)) "RetransmitClock.back_off" (.none) (sv "thinstack.retransmit" 497) (.ref 296)
noncomputable def k298_3 (p : Program) (P : Params) : Obj := ⟨.type "tuple", none, .seq #[] 0, #[]⟩
noncomputable def k299_3 (p : Program) (P : Params) : Obj := ⟨.none, none, .fields #[], #[]⟩
noncomputable def k300_3 (p : Program) (P : Params) : Obj := ⟨.type "tuple", none, .seq #[sv "self" 566] 0, #[]⟩
noncomputable def k301_3 (p : Program) (P : Params) : Obj := ⟨.type "tuple", none, .seq #[] 0, #[]⟩
noncomputable def k302_3 (p : Program) (P : Params) : Obj := fc (st p 17 (some 6)) "RetransmitClock.reset_tries"
noncomputable def k303_3 (p : Program) (P : Params) : Obj := ⟨.type "code", none, .fields #[sv "reset_tries" 563, sv "RetransmitClock.reset_tries" 564, sv "/claim/cut.py" 565, .int 146 0, .int 1 0, .int 0 0, .int 0 0, .int 3 0, .ref 298, .bool true, .int 181 0, .ref 299, .none, .ref 300, .ref 301, .ref 302, .int 567 0, .int 146 0, sv "/claim/cut.py" 568], #[]⟩
noncomputable def k304_3 (p : Program) (P : Params) : Obj := fo (st p 17 (some 6)) "RetransmitClock.reset_tries" (.none) (sv "thinstack.retransmit" 497) (.ref 303)
noncomputable def k305_3 (p : Program) (P : Params) : Obj := ⟨.type "tuple", none, .seq #[] 0, #[]⟩
noncomputable def k306_3 (p : Program) (P : Params) : Obj := ⟨.none, none, .fields #[], #[]⟩
noncomputable def k307_3 (p : Program) (P : Params) : Obj := ⟨.type "tuple", none, .seq #[sv "self" 573, sv "ticks" 574, sv "turn" 575] 0, #[]⟩
noncomputable def k308_3 (p : Program) (P : Params) : Obj := ⟨.type "tuple", none, .seq #[] 0, #[]⟩
noncomputable def k309_3 (p : Program) (P : Params) : Obj := fc (st p 17 (some 7)) "RetransmitClock.waited"
noncomputable def k310_3 (p : Program) (P : Params) : Obj := ⟨.type "code", none, .fields #[sv "waited" 570, sv "RetransmitClock.waited" 571, sv "/claim/cut.py" 572, .int 149 0, .int 1 0, .int 0 0, .int 0 0, .int 3 0, .ref 305, .bool true, .int 181 0, .ref 306, .none, .ref 307, .ref 308, .ref 309, .int 576 0, .int 149 0, sv "/claim/cut.py" 577], #[]⟩
noncomputable def k311_3 (p : Program) (P : Params) : Obj := fo (st p 17 (some 7)) "RetransmitClock.waited" (.none) (sv "thinstack.retransmit" 497) (.ref 310)
noncomputable def k312_3 (p : Program) (P : Params) : Obj := ⟨.type "tuple", none, .seq #[] 0, #[]⟩
noncomputable def k313_3 (p : Program) (P : Params) : Obj := ⟨.none, none, .fields #[], #[]⟩
noncomputable def k314_3 (p : Program) (P : Params) : Obj := ⟨.type "tuple", none, .seq #[sv "self" 582, sv "now" 583] 0, #[]⟩
noncomputable def k315_3 (p : Program) (P : Params) : Obj := ⟨.type "tuple", none, .seq #[] 0, #[]⟩
noncomputable def k316_3 (p : Program) (P : Params) : Obj := fc (st p 17 (some 8)) "RetransmitClock.deadline"
noncomputable def k317_3 (p : Program) (P : Params) : Obj := ⟨.type "code", none, .fields #[sv "deadline" 579, sv "RetransmitClock.deadline" 580, sv "/claim/cut.py" 581, .int 155 0, .int 2 0, .int 0 0, .int 0 0, .int 3 0, .ref 312, .bool true, .int 181 0, .ref 313, .none, .ref 314, .ref 315, .ref 316, .int 584 0, .int 155 0, sv "/claim/cut.py" 585], #[]⟩
noncomputable def k318_3 (p : Program) (P : Params) : Obj := fo (st p 17 (some 8)) "RetransmitClock.deadline" (.none) (sv "thinstack.retransmit" 497) (.ref 317)
noncomputable def k319_3 (p : Program) (P : Params) : Obj := ⟨.type "tuple", none, .seq #[sv "estimate" 587, sv "most_tries" 588, sv "timed_at" 589, sv "timed_end" 590, sv "tries" 591] 0, #[]⟩
noncomputable def k320_3 (p : Program) (P : Params) : Obj := ⟨.type "dict", none, .dict (List.toArray [en P "__module__" 508 (sv "thinstack.retransmit" 497), en P "__firstlineno__" 512 (.int 112 511), en P "__init__" 521 (.ref 262), en P "is_timing" 528 (.ref 269), en P "sent" 537 (.ref 276), en P "forget" 544 (.ref 283), en P "acked" 555 (.ref 290), en P "back_off" 562 (.ref 297), en P "reset_tries" 569 (.ref 304), en P "waited" 578 (.ref 311), en P "deadline" 586 (.ref 318), en P "__static_attributes__" 592 (.ref 319), en P "__dict__" 594 (.ref 322), en P "__weakref__" 596 (.ref 323), en P "__doc__" 597 (.none)]) 4, #[]⟩
noncomputable def k321_3 (p : Program) (P : Params) : Obj := ⟨.type "type", none, .cls { name := so "RetransmitClock", bases := [.type "object"], mro := [.ref 321, .type "object"], ns := 320, qualname := so "RetransmitClock", hasDict := true, slotNames := [], subclasses := [], abstract := false, collection := none, hasDel := false }, #[none, none, some (sv "RetransmitClock" 501), some (sv "RetransmitClock" 509), some (.builtin "object.__new__"), some (.bool true)]⟩
noncomputable def k322_3 (p : Program) (P : Params) : Obj := ⟨.type "getset_descriptor", none, .fields #[sv "__dict__" 593, .ref 321, .builtin "function.__dict__", .builtin "function.__dict__#set"], #[]⟩
noncomputable def k323_3 (p : Program) (P : Params) : Obj := ⟨.type "getset_descriptor", none, .fields #[sv "__weakref__" 595, .ref 321, .builtin "ExceptionGroup.__weakref__", .none], #[]⟩
noncomputable def k324_3 (p : Program) (P : Params) : Obj := ⟨.type "super", none, .fields #[.ref 321, .ref 321, .ref 321], #[]⟩
noncomputable def k325_3 (p : Program) (P : Params) : Obj := ⟨.type "builtin_function_or_method", none, .fields #[.builtin "object.__init_subclass__", .ref 321], #[]⟩
noncomputable def k326_3 (p : Program) (P : Params) : Obj := ⟨.type "tuple", none, .seq #[] 0, #[]⟩
noncomputable def k327_3 (p : Program) (P : Params) : Obj := ⟨.type "builtin_function_or_method", none, .fields #[.builtin "type.__prepare__", .type "type"], #[]⟩
noncomputable def k328_3 (p : Program) (P : Params) : Obj := ⟨.type "dict", none, .dict (List.toArray [en P "__module__" 609 (sv "thinstack.rtt" 600), en P "__qualname__" 611 (sv "RttEstimate" 610), en P "__firstlineno__" 613 (.int 158 612), en P "__init__" 623 (.ref 339), en P "sample" 632 (.ref 346), en P "mean" 639 (.ref 353), en P "plain_timeout" 646 (.ref 360), en P "timeout" 653 (.ref 367), en P "bounded" 661 (.ref 374), en P "__static_attributes__" 668 (.ref 375)]) 10, #[]⟩
noncomputable def k329_3 (p : Program) (P : Params) : Obj := ⟨.type "tuple", none, .seq #[] 0, #[]⟩
noncomputable def k330_3 (p : Program) (P : Params) : Obj := ⟨.none, none, .fields #[.int 160 0, .int 4 0, .ref 338, .int 168 0, .int 4 0, .ref 345, .int 180 0, .int 4 0, .ref 352, .int 183 0, .int 4 0, .ref 359, .int 188 0, .int 4 0, .ref 366, .int 191 0, .int 4 0, .ref 373], #[]⟩
noncomputable def k331_3 (p : Program) (P : Params) : Obj := ⟨.type "code", none, .fields #[sv "RttEstimate" 604, sv "RttEstimate" 605, sv "/claim/cut.py" 606, .int 158 0, .int 0 0, .int 0 0, .int 0 0, .int 0 0, .ref 329, .bool false, .int 181 0, .ref 330, .none, .none, .none, .none, .int 607 0, .int 158 0, sv "/claim/cut.py" 608], #[]⟩
noncomputable def k332_3 (p : Program) (P : Params) : Obj := ⟨.type "frame", none, .plain, #[some (.ref 331), some (.ref 3), some (.ref 328), none, some (sv "thinstack.rtt" 600), none, some (.ref 0)]⟩
noncomputable def k333_3 (p : Program) (P : Params) : Obj := ⟨.type "tuple", none, .seq #[] 0, #[]⟩
noncomputable def k334_3 (p : Program) (P : Params) : Obj := ⟨.none, none, .fields #[], #[]⟩
noncomputable def k335_3 (p : Program) (P : Params) : Obj := ⟨.type "tuple", none, .seq #[sv "self" 617, sv "first" 618, sv "least" 619, sv "most" 620] 0, #[]⟩
noncomputable def k336_3 (p : Program) (P : Params) : Obj := ⟨.type "tuple", none, .seq #[] 0, #[]⟩
noncomputable def k337_3 (p : Program) (P : Params) : Obj := fc (st p 19 (some 0)) "RttEstimate.__init__"
noncomputable def k338_3 (p : Program) (P : Params) : Obj := ⟨.type "code", none, .fields #[sv "__init__" 614, sv "RttEstimate.__init__" 615, sv "/claim/cut.py" 616, .int 160 0, .int 4 0, .int 0 0, .int 0 0, .int 3 0, .ref 333, .bool true, .int 181 0, .ref 334, .none, .ref 335, .ref 336, .ref 337, .int 621 0, .int 160 0, sv "/claim/cut.py" 622], #[]⟩
noncomputable def k339_3 (p : Program) (P : Params) : Obj := fo (st p 19 (some 0)) "RttEstimate.__init__" (.none) (sv "thinstack.rtt" 600) (.ref 338)
noncomputable def k340_3 (p : Program) (P : Params) : Obj := ⟨.type "tuple", none, .seq #[] 0, #[]⟩
noncomputable def k341_3 (p : Program) (P : Params) : Obj := ⟨.none, none, .fields #[], #[]⟩
noncomputable def k342_3 (p : Program) (P : Params) : Obj := ⟨.type "tuple", none, .seq #[sv "self" 627, sv "measured" 628, sv "apart" 629] 0, #[]⟩
noncomputable def k343_3 (p : Program) (P : Params) : Obj := ⟨.type "tuple", none, .seq #[] 0, #[]⟩
noncomputable def k344_3 (p : Program) (P : Params) : Obj := fc (st p 19 (some 1)) "RttEstimate.sample"
noncomputable def k345_3 (p : Program) (P : Params) : Obj := ⟨.type "code", none, .fields #[sv "sample" 624, sv "RttEstimate.sample" 625, sv "/claim/cut.py" 626, .int 168 0, .int 2 0, .int 0 0, .int 0 0, .int 3 0, .ref 340, .bool true, .int 181 0, .ref 341, .none, .ref 342, .ref 343, .ref 344, .int 630 0, .int 168 0, sv "/claim/cut.py" 631], #[]⟩
noncomputable def k346_3 (p : Program) (P : Params) : Obj := fo (st p 19 (some 1)) "RttEstimate.sample" (.none) (sv "thinstack.rtt" 600) (.ref 345)
noncomputable def k347_3 (p : Program) (P : Params) : Obj := ⟨.type "tuple", none, .seq #[] 0, #[]⟩
noncomputable def k348_3 (p : Program) (P : Params) : Obj := ⟨.none, none, .fields #[], #[]⟩
noncomputable def k349_3 (p : Program) (P : Params) : Obj := ⟨.type "tuple", none, .seq #[sv "self" 636] 0, #[]⟩
noncomputable def k350_3 (p : Program) (P : Params) : Obj := ⟨.type "tuple", none, .seq #[] 0, #[]⟩
noncomputable def k351_3 (p : Program) (P : Params) : Obj := fc (st p 19 (some 2)) "RttEstimate.mean"
noncomputable def k352_3 (p : Program) (P : Params) : Obj := ⟨.type "code", none, .fields #[sv "mean" 633, sv "RttEstimate.mean" 634, sv "/claim/cut.py" 635, .int 180 0, .int 1 0, .int 0 0, .int 0 0, .int 3 0, .ref 347, .bool true, .int 181 0, .ref 348, .none, .ref 349, .ref 350, .ref 351, .int 637 0, .int 180 0, sv "/claim/cut.py" 638], #[]⟩
noncomputable def k353_3 (p : Program) (P : Params) : Obj := fo (st p 19 (some 2)) "RttEstimate.mean" (.none) (sv "thinstack.rtt" 600) (.ref 352)
noncomputable def k354_3 (p : Program) (P : Params) : Obj := ⟨.type "tuple", none, .seq #[] 0, #[]⟩
noncomputable def k355_3 (p : Program) (P : Params) : Obj := ⟨.none, none, .fields #[], #[]⟩
noncomputable def k356_3 (p : Program) (P : Params) : Obj := ⟨.type "tuple", none, .seq #[sv "self" 643] 0, #[]⟩
noncomputable def k357_3 (p : Program) (P : Params) : Obj := ⟨.type "tuple", none, .seq #[] 0, #[]⟩
noncomputable def k358_3 (p : Program) (P : Params) : Obj := fc (st p 19 (some 3)) "RttEstimate.plain_timeout"
noncomputable def k359_3 (p : Program) (P : Params) : Obj := ⟨.type "code", none, .fields #[sv "plain_timeout" 640, sv "RttEstimate.plain_timeout" 641, sv "/claim/cut.py" 642, .int 183 0, .int 1 0, .int 0 0, .int 0 0, .int 3 0, .ref 354, .bool true, .int 181 0, .ref 355, .none, .ref 356, .ref 357, .ref 358, .int 644 0, .int 183 0, sv "/claim/cut.py" 645], #[]⟩
noncomputable def k360_3 (p : Program) (P : Params) : Obj := fo (st p 19 (some 3)) "RttEstimate.plain_timeout" (.none) (sv "thinstack.rtt" 600) (.ref 359)
noncomputable def k361_3 (p : Program) (P : Params) : Obj := ⟨.type "tuple", none, .seq #[] 0, #[]⟩
noncomputable def k362_3 (p : Program) (P : Params) : Obj := ⟨.none, none, .fields #[], #[]⟩
noncomputable def k363_3 (p : Program) (P : Params) : Obj := ⟨.type "tuple", none, .seq #[sv "self" 650] 0, #[]⟩
noncomputable def k364_3 (p : Program) (P : Params) : Obj := ⟨.type "tuple", none, .seq #[] 0, #[]⟩
noncomputable def k365_3 (p : Program) (P : Params) : Obj := fc (st p 19 (some 4)) "RttEstimate.timeout"
noncomputable def k366_3 (p : Program) (P : Params) : Obj := ⟨.type "code", none, .fields #[sv "timeout" 647, sv "RttEstimate.timeout" 648, sv "/claim/cut.py" 649, .int 188 0, .int 1 0, .int 0 0, .int 0 0, .int 3 0, .ref 361, .bool true, .int 181 0, .ref 362, .none, .ref 363, .ref 364, .ref 365, .int 651 0, .int 188 0, sv "/claim/cut.py" 652], #[]⟩
noncomputable def k367_3 (p : Program) (P : Params) : Obj := fo (st p 19 (some 4)) "RttEstimate.timeout" (.none) (sv "thinstack.rtt" 600) (.ref 366)
noncomputable def k368_3 (p : Program) (P : Params) : Obj := ⟨.type "tuple", none, .seq #[] 0, #[]⟩
noncomputable def k369_3 (p : Program) (P : Params) : Obj := ⟨.none, none, .fields #[], #[]⟩
noncomputable def k370_3 (p : Program) (P : Params) : Obj := ⟨.type "tuple", none, .seq #[sv "self" 657, sv "ticks" 658] 0, #[]⟩
noncomputable def k371_3 (p : Program) (P : Params) : Obj := ⟨.type "tuple", none, .seq #[] 0, #[]⟩
noncomputable def k372_3 (p : Program) (P : Params) : Obj := fc (st p 19 (some 5)) "RttEstimate.bounded"
noncomputable def k373_3 (p : Program) (P : Params) : Obj := ⟨.type "code", none, .fields #[sv "bounded" 654, sv "RttEstimate.bounded" 655, sv "/claim/cut.py" 656, .int 191 0, .int 2 0, .int 0 0, .int 0 0, .int 3 0, .ref 368, .bool true, .int 181 0, .ref 369, .none, .ref 370, .ref 371, .ref 372, .int 659 0, .int 191 0, sv "/claim/cut.py" 660], #[]⟩
noncomputable def k374_3 (p : Program) (P : Params) : Obj := fo (st p 19 (some 5)) "RttEstimate.bounded" (.none) (sv "thinstack.rtt" 600) (.ref 373)
noncomputable def k375_3 (p : Program) (P : Params) : Obj := ⟨.type "tuple", none, .seq #[sv "first" 662, sv "least" 663, sv "mean8" 664, sv "measured" 665, sv "most" 666, sv "spread4" 667] 0, #[]⟩
noncomputable def k376_3 (p : Program) (P : Params) : Obj := ⟨.type "dict", none, .dict (List.toArray [en P "__module__" 609 (sv "thinstack.rtt" 600), en P "__firstlineno__" 613 (.int 158 612), en P "__init__" 623 (.ref 339), en P "sample" 632 (.ref 346), en P "mean" 639 (.ref 353), en P "plain_timeout" 646 (.ref 360), en P "timeout" 653 (.ref 367), en P "bounded" 661 (.ref 374), en P "__static_attributes__" 668 (.ref 375), en P "__dict__" 670 (.ref 378), en P "__weakref__" 672 (.ref 379), en P "__doc__" 673 (.none)]) 4, #[]⟩
noncomputable def k377_3 (p : Program) (P : Params) : Obj := ⟨.type "type", none, .cls { name := so "RttEstimate", bases := [.type "object"], mro := [.ref 377, .type "object"], ns := 376, qualname := so "RttEstimate", hasDict := true, slotNames := [], subclasses := [], abstract := false, collection := none, hasDel := false }, #[none, none, some (sv "RttEstimate" 602), some (sv "RttEstimate" 610), some (.builtin "object.__new__"), some (.bool true)]⟩
noncomputable def k378_3 (p : Program) (P : Params) : Obj := ⟨.type "getset_descriptor", none, .fields #[sv "__dict__" 669, .ref 377, .builtin "function.__dict__", .builtin "function.__dict__#set"], #[]⟩
noncomputable def k379_3 (p : Program) (P : Params) : Obj := ⟨.type "getset_descriptor", none, .fields #[sv "__weakref__" 671, .ref 377, .builtin "ExceptionGroup.__weakref__", .none], #[]⟩
noncomputable def k380_3 (p : Program) (P : Params) : Obj := ⟨.type "super", none, .fields #[.ref 377, .ref 377, .ref 377], #[]⟩
noncomputable def k381_3 (p : Program) (P : Params) : Obj := ⟨.type "builtin_function_or_method", none, .fields #[.builtin "object.__init_subclass__", .ref 377], #[]⟩
noncomputable def T3 (p : Program) (P : Params) : BT := (.node (k0_0 p P) (.node (k1_1 p P) (.node (k3_3 p P) (.node (k7_1 p P) (.node (k15_1 p P) (.node (k31_1 p P) (.node (k63_1 p P) (.node (k127_2 p P) (.node (k255_3 p P) .nil .nil) .nil) (.node (k191_2 p P) (.node (k319_3 p P) .nil .nil) .nil)) (.node (k95_1 p P) (.node (k159_2 p P) (.node (k287_3 p P) .nil .nil) .nil) (.node (k223_2 p P) (.node (k351_3 p P) .nil .nil) .nil))) (.node (k47_1 p P) (.node (k79_1 p P) (.node (k143_2 p P) (.node (k271_3 p P) .nil .nil) .nil) (.node (k207_2 p P) (.node (k335_3 p P) .nil .nil) .nil)) (.node (k111_2 p P) (.node (k175_2 p P) (.node (k303_3 p P) .nil .nil) .nil) (.node (k239_2 p P) (.node (k367_3 p P) .nil .nil) .nil)))) (.node (k23_1 p P) (.node (k39_1 p P) (.node (k71_1 p P) (.node (k135_2 p P) (.node (k263_3 p P) .nil .nil) .nil) (.node (k199_2 p P) (.node (k327_3 p P) .nil .nil) .nil)) (.node (k103_2 p P) (.node (k167_2 p P) (.node (k295_3 p P) .nil .nil) .nil) (.node (k231_2 p P) (.node (k359_3 p P) .nil .nil) .nil))) (.node (k55_1 p P) (.node (k87_1 p P) (.node (k151_2 p P) (.node (k279_3 p P) .nil .nil) .nil) (.node (k215_2 p P) (.node (k343_3 p P) .nil .nil) .nil)) (.node (k119_2 p P) (.node (k183_2 p P) (.node (k311_3 p P) .nil .nil) .nil) (.node (k247_2 p P) (.node (k375_3 p P) .nil .nil) .nil))))) (.node (k11_0 p P) (.node (k19_1 p P) (.node (k35_1 p P) (.node (k67_1 p P) (.node (k131_2 p P) (.node (k259_3 p P) .nil .nil) .nil) (.node (k195_2 p P) (.node (k323_3 p P) .nil .nil) .nil)) (.node (k99_1 p P) (.node (k163_2 p P) (.node (k291_3 p P) .nil .nil) .nil) (.node (k227_2 p P) (.node (k355_3 p P) .nil .nil) .nil))) (.node (k51_1 p P) (.node (k83_1 p P) (.node (k147_2 p P) (.node (k275_3 p P) .nil .nil) .nil) (.node (k211_2 p P) (.node (k339_3 p P) .nil .nil) .nil)) (.node (k115_2 p P) (.node (k179_2 p P) (.node (k307_3 p P) .nil .nil) .nil) (.node (k243_2 p P) (.node (k371_3 p P) .nil .nil) .nil)))) (.node (k27_1 p P) (.node (k43_1 p P) (.node (k75_1 p P) (.node (k139_2 p P) (.node (k267_3 p P) .nil .nil) .nil) (.node (k203_2 p P) (.node (k331_3 p P) .nil .nil) .nil)) (.node (k107_2 p P) (.node (k171_2 p P) (.node (k299_3 p P) .nil .nil) .nil) (.node (k235_2 p P) (.node (k363_3 p P) .nil .nil) .nil))) (.node (k59_1 p P) (.node (k91_1 p P) (.node (k155_2 p P) (.node (k283_3 p P) .nil .nil) .nil) (.node (k219_2 p P) (.node (k347_3 p P) .nil .nil) .nil)) (.node (k123_2 p P) (.node (k187_2 p P) (.node (k315_3 p P) .nil .nil) .nil) (.node (k251_3 p P) (.node (k379_3 p P) .nil .nil) .nil)))))) (.node (k5_1 p P) (.node (k9_1 p P) (.node (k17_1 p P) (.node (k33_1 p P) (.node (k65_1 p P) (.node (k129_2 p P) (.node (k257_3 p P) .nil .nil) .nil) (.node (k193_2 p P) (.node (k321_3 p P) .nil .nil) .nil)) (.node (k97_1 p P) (.node (k161_2 p P) (.node (k289_3 p P) .nil .nil) .nil) (.node (k225_2 p P) (.node (k353_3 p P) .nil .nil) .nil))) (.node (k49_1 p P) (.node (k81_1 p P) (.node (k145_2 p P) (.node (k273_3 p P) .nil .nil) .nil) (.node (k209_2 p P) (.node (k337_3 p P) .nil .nil) .nil)) (.node (k113_2 p P) (.node (k177_2 p P) (.node (k305_3 p P) .nil .nil) .nil) (.node (k241_2 p P) (.node (k369_3 p P) .nil .nil) .nil)))) (.node (k25_1 p P) (.node (k41_1 p P) (.node (k73_1 p P) (.node (k137_2 p P) (.node (k265_3 p P) .nil .nil) .nil) (.node (k201_2 p P) (.node (k329_3 p P) .nil .nil) .nil)) (.node (k105_2 p P) (.node (k169_2 p P) (.node (k297_3 p P) .nil .nil) .nil) (.node (k233_2 p P) (.node (k361_3 p P) .nil .nil) .nil))) (.node (k57_1 p P) (.node (k89_1 p P) (.node (k153_2 p P) (.node (k281_3 p P) .nil .nil) .nil) (.node (k217_2 p P) (.node (k345_3 p P) .nil .nil) .nil)) (.node (k121_2 p P) (.node (k185_2 p P) (.node (k313_3 p P) .nil .nil) .nil) (.node (k249_3 p P) (.node (k377_3 p P) .nil .nil) .nil))))) (.node (k13_0 p P) (.node (k21_1 p P) (.node (k37_1 p P) (.node (k69_1 p P) (.node (k133_2 p P) (.node (k261_3 p P) .nil .nil) .nil) (.node (k197_2 p P) (.node (k325_3 p P) .nil .nil) .nil)) (.node (k101_2 p P) (.node (k165_2 p P) (.node (k293_3 p P) .nil .nil) .nil) (.node (k229_2 p P) (.node (k357_3 p P) .nil .nil) .nil))) (.node (k53_1 p P) (.node (k85_1 p P) (.node (k149_2 p P) (.node (k277_3 p P) .nil .nil) .nil) (.node (k213_2 p P) (.node (k341_3 p P) .nil .nil) .nil)) (.node (k117_2 p P) (.node (k181_2 p P) (.node (k309_3 p P) .nil .nil) .nil) (.node (k245_2 p P) (.node (k373_3 p P) .nil .nil) .nil)))) (.node (k29_1 p P) (.node (k45_1 p P) (.node (k77_1 p P) (.node (k141_2 p P) (.node (k269_3 p P) .nil .nil) .nil) (.node (k205_2 p P) (.node (k333_3 p P) .nil .nil) .nil)) (.node (k109_2 p P) (.node (k173_2 p P) (.node (k301_3 p P) .nil .nil) .nil) (.node (k237_2 p P) (.node (k365_3 p P) .nil .nil) .nil))) (.node (k61_1 p P) (.node (k93_1 p P) (.node (k157_2 p P) (.node (k285_3 p P) .nil .nil) .nil) (.node (k221_2 p P) (.node (k349_3 p P) .nil .nil) .nil)) (.node (k125_2 p P) (.node (k189_2 p P) (.node (k317_3 p P) .nil .nil) .nil) (.node (k253_3 p P) (.node (k381_3 p P) .nil .nil) .nil))))))) (.node (k2_1 p P) (.node (k4_1 p P) (.node (k8_1 p P) (.node (k16_1 p P) (.node (k32_1 p P) (.node (k64_1 p P) (.node (k128_2 p P) (.node (k256_3 p P) .nil .nil) .nil) (.node (k192_2 p P) (.node (k320_3 p P) .nil .nil) .nil)) (.node (k96_1 p P) (.node (k160_2 p P) (.node (k288_3 p P) .nil .nil) .nil) (.node (k224_2 p P) (.node (k352_3 p P) .nil .nil) .nil))) (.node (k48_1 p P) (.node (k80_1 p P) (.node (k144_2 p P) (.node (k272_3 p P) .nil .nil) .nil) (.node (k208_2 p P) (.node (k336_3 p P) .nil .nil) .nil)) (.node (k112_2 p P) (.node (k176_2 p P) (.node (k304_3 p P) .nil .nil) .nil) (.node (k240_2 p P) (.node (k368_3 p P) .nil .nil) .nil)))) (.node (k24_1 p P) (.node (k40_1 p P) (.node (k72_1 p P) (.node (k136_2 p P) (.node (k264_3 p P) .nil .nil) .nil) (.node (k200_2 p P) (.node (k328_3 p P) .nil .nil) .nil)) (.node (k104_2 p P) (.node (k168_2 p P) (.node (k296_3 p P) .nil .nil) .nil) (.node (k232_2 p P) (.node (k360_3 p P) .nil .nil) .nil))) (.node (k56_1 p P) (.node (k88_1 p P) (.node (k152_2 p P) (.node (k280_3 p P) .nil .nil) .nil) (.node (k216_2 p P) (.node (k344_3 p P) .nil .nil) .nil)) (.node (k120_2 p P) (.node (k184_2 p P) (.node (k312_3 p P) .nil .nil) .nil) (.node (k248_2 p P) (.node (k376_3 p P) .nil .nil) .nil))))) (.node (k12_3 p P) (.node (k20_1 p P) (.node (k36_1 p P) (.node (k68_1 p P) (.node (k132_2 p P) (.node (k260_3 p P) .nil .nil) .nil) (.node (k196_2 p P) (.node (k324_3 p P) .nil .nil) .nil)) (.node (k100_1 p P) (.node (k164_2 p P) (.node (k292_3 p P) .nil .nil) .nil) (.node (k228_2 p P) (.node (k356_3 p P) .nil .nil) .nil))) (.node (k52_1 p P) (.node (k84_1 p P) (.node (k148_2 p P) (.node (k276_3 p P) .nil .nil) .nil) (.node (k212_2 p P) (.node (k340_3 p P) .nil .nil) .nil)) (.node (k116_2 p P) (.node (k180_2 p P) (.node (k308_3 p P) .nil .nil) .nil) (.node (k244_2 p P) (.node (k372_3 p P) .nil .nil) .nil)))) (.node (k28_1 p P) (.node (k44_1 p P) (.node (k76_1 p P) (.node (k140_2 p P) (.node (k268_3 p P) .nil .nil) .nil) (.node (k204_2 p P) (.node (k332_3 p P) .nil .nil) .nil)) (.node (k108_2 p P) (.node (k172_2 p P) (.node (k300_3 p P) .nil .nil) .nil) (.node (k236_2 p P) (.node (k364_3 p P) .nil .nil) .nil))) (.node (k60_1 p P) (.node (k92_1 p P) (.node (k156_2 p P) (.node (k284_3 p P) .nil .nil) .nil) (.node (k220_2 p P) (.node (k348_3 p P) .nil .nil) .nil)) (.node (k124_2 p P) (.node (k188_2 p P) (.node (k316_3 p P) .nil .nil) .nil) (.node (k252_3 p P) (.node (k380_3 p P) .nil .nil) .nil)))))) (.node (k6_1 p P) (.node (k10_1 p P) (.node (k18_1 p P) (.node (k34_1 p P) (.node (k66_1 p P) (.node (k130_2 p P) (.node (k258_3 p P) .nil .nil) .nil) (.node (k194_2 p P) (.node (k322_3 p P) .nil .nil) .nil)) (.node (k98_1 p P) (.node (k162_2 p P) (.node (k290_3 p P) .nil .nil) .nil) (.node (k226_2 p P) (.node (k354_3 p P) .nil .nil) .nil))) (.node (k50_1 p P) (.node (k82_1 p P) (.node (k146_2 p P) (.node (k274_3 p P) .nil .nil) .nil) (.node (k210_2 p P) (.node (k338_3 p P) .nil .nil) .nil)) (.node (k114_2 p P) (.node (k178_2 p P) (.node (k306_3 p P) .nil .nil) .nil) (.node (k242_2 p P) (.node (k370_3 p P) .nil .nil) .nil)))) (.node (k26_1 p P) (.node (k42_1 p P) (.node (k74_1 p P) (.node (k138_2 p P) (.node (k266_3 p P) .nil .nil) .nil) (.node (k202_2 p P) (.node (k330_3 p P) .nil .nil) .nil)) (.node (k106_2 p P) (.node (k170_2 p P) (.node (k298_3 p P) .nil .nil) .nil) (.node (k234_2 p P) (.node (k362_3 p P) .nil .nil) .nil))) (.node (k58_1 p P) (.node (k90_1 p P) (.node (k154_2 p P) (.node (k282_3 p P) .nil .nil) .nil) (.node (k218_2 p P) (.node (k346_3 p P) .nil .nil) .nil)) (.node (k122_2 p P) (.node (k186_2 p P) (.node (k314_3 p P) .nil .nil) .nil) (.node (k250_3 p P) (.node (k378_3 p P) .nil .nil) .nil))))) (.node (k14_0 p P) (.node (k22_1 p P) (.node (k38_1 p P) (.node (k70_1 p P) (.node (k134_2 p P) (.node (k262_3 p P) .nil .nil) .nil) (.node (k198_2 p P) (.node (k326_3 p P) .nil .nil) .nil)) (.node (k102_2 p P) (.node (k166_2 p P) (.node (k294_3 p P) .nil .nil) .nil) (.node (k230_2 p P) (.node (k358_3 p P) .nil .nil) .nil))) (.node (k54_1 p P) (.node (k86_1 p P) (.node (k150_2 p P) (.node (k278_3 p P) .nil .nil) .nil) (.node (k214_2 p P) (.node (k342_3 p P) .nil .nil) .nil)) (.node (k118_2 p P) (.node (k182_2 p P) (.node (k310_3 p P) .nil .nil) .nil) (.node (k246_2 p P) (.node (k374_3 p P) .nil .nil) .nil)))) (.node (k30_1 p P) (.node (k46_1 p P) (.node (k78_1 p P) (.node (k142_2 p P) (.node (k270_3 p P) .nil .nil) .nil) (.node (k206_2 p P) (.node (k334_3 p P) .nil .nil) .nil)) (.node (k110_2 p P) (.node (k174_2 p P) (.node (k302_3 p P) .nil .nil) .nil) (.node (k238_2 p P) (.node (k366_3 p P) .nil .nil) .nil))) (.node (k62_1 p P) (.node (k94_1 p P) (.node (k158_2 p P) (.node (k286_3 p P) .nil .nil) .nil) (.node (k222_2 p P) (.node (k350_3 p P) .nil .nil) .nil)) (.node (k126_2 p P) (.node (k190_2 p P) (.node (k318_3 p P) .nil .nil) .nil) (.node (k254_3 p P) .nil .nil))))))))
noncomputable def S3 (p : Program) (w : World) (os : OsState) : SharedT := ⟨T3 p w.params, 382, {}, #[], {}, 678, os⟩
def pos3 : Pos := ⟨195, 0, 195, 8⟩
noncomputable def k3_4 (p : Program) (P : Params) : Obj := ⟨.type "dict", none, .dict (List.toArray (en P "__name__" 165 (sv "thinstack.sender" 748) :: (ents3 P).take 24)) 25, #[]⟩
noncomputable def k12_4 (p : Program) (P : Params) : Obj := ⟨.none, none, .fields (List.toArray (vals12.take 45)), #[]⟩
noncomputable def k382_4 (p : Program) (P : Params) : Obj := ⟨.type "tuple", none, .seq #[] 0, #[]⟩
noncomputable def k383_4 (p : Program) (P : Params) : Obj := ⟨.type "builtin_function_or_method", none, .fields #[.builtin "type.__prepare__", .type "type"], #[]⟩
noncomputable def k384_4 (p : Program) (P : Params) : Obj := ⟨.type "dict", none, .dict (List.toArray [en P "__module__" 685 (sv "thinstack.send_queue" 676), en P "__qualname__" 687 (sv "SendQueue" 686), en P "__firstlineno__" 689 (.int 196 688), en P "__init__" 697 (.ref 395), en P "size" 704 (.ref 402), en P "room_left" 711 (.ref 409), en P "put" 720 (.ref 416), en P "part" 729 (.ref 423), en P "drop" 737 (.ref 430), en P "__static_attributes__" 740 (.ref 431)]) 10, #[]⟩
noncomputable def k385_4 (p : Program) (P : Params) : Obj := ⟨.type "tuple", none, .seq #[] 0, #[]⟩
noncomputable def k386_4 (p : Program) (P : Params) : Obj := ⟨.none, none, .fields #[.int 198 0, .int 4 0, .ref 394, .int 204 0, .int 4 0, .ref 401, .int 207 0, .int 4 0, .ref 408, .int 210 0, .int 4 0, .ref 415, .int 215 0, .int 4 0, .ref 422, .int 220 0, .int 4 0, .ref 429], #[]⟩
noncomputable def k387_4 (p : Program) (P : Params) : Obj := ⟨.type "code", none, .fields #[sv "SendQueue" 680, sv "SendQueue" 681, sv "/claim/cut.py" 682, .int 196 0, .int 0 0, .int 0 0, .int 0 0, .int 0 0, .ref 385, .bool false, .int 181 0, .ref 386, .none, .none, .none, .none, .int 683 0, .int 196 0, sv "/claim/cut.py" 684], #[]⟩
noncomputable def k388_4 (p : Program) (P : Params) : Obj := ⟨.type "frame", none, .plain, #[some (.ref 387), some (.ref 3), some (.ref 384), none, some (sv "thinstack.send_queue" 676), none, some (.ref 0)]⟩
noncomputable def k389_4 (p : Program) (P : Params) : Obj := ⟨.type "tuple", none, .seq #[] 0, #[]⟩
noncomputable def k390_4 (p : Program) (P : Params) : Obj := ⟨.none, none, .fields #[], #[]⟩
noncomputable def k391_4 (p : Program) (P : Params) : Obj := ⟨.type "tuple", none, .seq #[sv "self" 693, sv "room" 694] 0, #[]⟩
noncomputable def k392_4 (p : Program) (P : Params) : Obj := ⟨.type "tuple", none, .seq #[] 0, #[]⟩
noncomputable def k393_4 (p : Program) (P : Params) : Obj := fc (st p 21 (some 0)) "SendQueue.__init__"
noncomputable def k394_4 (p : Program) (P : Params) : Obj := ⟨.type "code", none, .fields #[sv "__init__" 690, sv "SendQueue.__init__" 691, sv "/claim/cut.py" 692, .int 198 0, .int 2 0, .int 0 0, .int 0 0, .int 3 0, .ref 389, .bool true, .int 181 0, .ref 390, .none, .ref 391, .ref 392, .ref 393, .int 695 0, .int 198 0, sv "/claim/cut.py" 696], #[]⟩
noncomputable def k395_4 (p : Program) (P : Params) : Obj := fo (st p 21 (some 0)) "SendQueue.__init__" (.none) (sv "thinstack.send_queue" 676) (.ref 394)
noncomputable def k396_4 (p : Program) (P : Params) : Obj := ⟨.type "tuple", none, .seq #[] 0, #[]⟩
noncomputable def k397_4 (p : Program) (P : Params) : Obj := ⟨.none, none, .fields #[], #[]⟩
noncomputable def k398_4 (p : Program) (P : Params) : Obj := ⟨.type "tuple", none, .seq #[sv "self" 701] 0, #[]⟩
noncomputable def k399_4 (p : Program) (P : Params) : Obj := ⟨.type "tuple", none, .seq #[] 0, #[]⟩
noncomputable def k400_4 (p : Program) (P : Params) : Obj := fc (st p 21 (some 1)) "SendQueue.size"
noncomputable def k401_4 (p : Program) (P : Params) : Obj := ⟨.type "code", none, .fields #[sv "size" 698, sv "SendQueue.size" 699, sv "/claim/cut.py" 700, .int 204 0, .int 1 0, .int 0 0, .int 0 0, .int 3 0, .ref 396, .bool true, .int 181 0, .ref 397, .none, .ref 398, .ref 399, .ref 400, .int 702 0, .int 204 0, sv "/claim/cut.py" 703], #[]⟩
noncomputable def k402_4 (p : Program) (P : Params) : Obj := fo (st p 21 (some 1)) "SendQueue.size" (.none) (sv "thinstack.send_queue" 676) (.ref 401)
noncomputable def k403_4 (p : Program) (P : Params) : Obj := ⟨.type "tuple", none, .seq #[] 0, #[]⟩
noncomputable def k404_4 (p : Program) (P : Params) : Obj := ⟨.none, none, .fields #[], #[]⟩
noncomputable def k405_4 (p : Program) (P : Params) : Obj := ⟨.type "tuple", none, .seq #[sv "self" 708] 0, #[]⟩
noncomputable def k406_4 (p : Program) (P : Params) : Obj := ⟨.type "tuple", none, .seq #[] 0, #[]⟩
noncomputable def k407_4 (p : Program) (P : Params) : Obj := fc (st p 21 (some 2)) "SendQueue.room_left"
noncomputable def k408_4 (p : Program) (P : Params) : Obj := ⟨.type "code", none, .fields #[sv "room_left" 705, sv "SendQueue.room_left" 706, sv "/claim/cut.py" 707, .int 207 0, .int 1 0, .int 0 0, .int 0 0, .int 3 0, .ref 403, .bool true, .int 181 0, .ref 404, .none, .ref 405, .ref 406, .ref 407, .int 709 0, .int 207 0, sv "/claim/cut.py" 710], #[]⟩
noncomputable def k409_4 (p : Program) (P : Params) : Obj := fo (st p 21 (some 2)) "SendQueue.room_left" (.none) (sv "thinstack.send_queue" 676) (.ref 408)
noncomputable def k410_4 (p : Program) (P : Params) : Obj := ⟨.type "tuple", none, .seq #[] 0, #[]⟩
noncomputable def k411_4 (p : Program) (P : Params) : Obj := ⟨.none, none, .fields #[], #[]⟩
noncomputable def k412_4 (p : Program) (P : Params) : Obj := ⟨.type "tuple", none, .seq #[sv "self" 715, sv "octets" 716, sv "taken" 717] 0, #[]⟩
noncomputable def k413_4 (p : Program) (P : Params) : Obj := ⟨.type "tuple", none, .seq #[] 0, #[]⟩
noncomputable def k414_4 (p : Program) (P : Params) : Obj := fc (st p 21 (some 3)) "SendQueue.put"
noncomputable def k415_4 (p : Program) (P : Params) : Obj := ⟨.type "code", none, .fields #[sv "put" 712, sv "SendQueue.put" 713, sv "/claim/cut.py" 714, .int 210 0, .int 2 0, .int 0 0, .int 0 0, .int 3 0, .ref 410, .bool true, .int 181 0, .ref 411, .none, .ref 412, .ref 413, .ref 414, .int 718 0, .int 210 0, sv "/claim/cut.py" 719], #[]⟩
noncomputable def k416_4 (p : Program) (P : Params) : Obj := fo (st p 21 (some 3)) "SendQueue.put" (.none) (sv "thinstack.send_queue" 676) (.ref 415)
noncomputable def k417_4 (p : Program) (P : Params) : Obj := ⟨.type "tuple", none, .seq #[] 0, #[]⟩
noncomputable def k418_4 (p : Program) (P : Params) : Obj := ⟨.none, none, .fields #[], #[]⟩
noncomputable def k419_4 (p : Program) (P : Params) : Obj := ⟨.type "tuple", none, .seq #[sv "self" 724, sv "at" 725, sv "many" 726] 0, #[]⟩
noncomputable def k420_4 (p : Program) (P : Params) : Obj := ⟨.type "tuple", none, .seq #[] 0, #[]⟩
noncomputable def k421_4 (p : Program) (P : Params) : Obj := fc (st p 21 (some 4)) "SendQueue.part"
noncomputable def k422_4 (p : Program) (P : Params) : Obj := ⟨.type "code", none, .fields #[sv "part" 721, sv "SendQueue.part" 722, sv "/claim/cut.py" 723, .int 215 0, .int 3 0, .int 0 0, .int 0 0, .int 3 0, .ref 417, .bool true, .int 181 0, .ref 418, .none, .ref 419, .ref 420, .ref 421, .int 727 0, .int 215 0, sv "/claim/cut.py" 728], #[]⟩
noncomputable def k423_4 (p : Program) (P : Params) : Obj := fo (st p 21 (some 4)) "SendQueue.part" (.none) (sv "thinstack.send_queue" 676) (.ref 422)
noncomputable def k424_4 (p : Program) (P : Params) : Obj := ⟨.type "tuple", none, .seq #[] 0, #[]⟩
noncomputable def k425_4 (p : Program) (P : Params) : Obj := ⟨.none, none, .fields #[], #[]⟩
noncomputable def k426_4 (p : Program) (P : Params) : Obj := ⟨.type "tuple", none, .seq #[sv "self" 733, sv "many" 734] 0, #[]⟩
noncomputable def k427_4 (p : Program) (P : Params) : Obj := ⟨.type "tuple", none, .seq #[] 0, #[]⟩
noncomputable def k428_4 (p : Program) (P : Params) : Obj := fc (st p 21 (some 5)) "SendQueue.drop"
noncomputable def k429_4 (p : Program) (P : Params) : Obj := ⟨.type "code", none, .fields #[sv "drop" 730, sv "SendQueue.drop" 731, sv "/claim/cut.py" 732, .int 220 0, .int 2 0, .int 0 0, .int 0 0, .int 3 0, .ref 424, .bool true, .int 181 0, .ref 425, .none, .ref 426, .ref 427, .ref 428, .int 735 0, .int 220 0, sv "/claim/cut.py" 736], #[]⟩
noncomputable def k430_4 (p : Program) (P : Params) : Obj := fo (st p 21 (some 5)) "SendQueue.drop" (.none) (sv "thinstack.send_queue" 676) (.ref 429)
noncomputable def k431_4 (p : Program) (P : Params) : Obj := ⟨.type "tuple", none, .seq #[sv "held" 738, sv "room" 739] 0, #[]⟩
noncomputable def k432_4 (p : Program) (P : Params) : Obj := ⟨.type "dict", none, .dict (List.toArray [en P "__module__" 685 (sv "thinstack.send_queue" 676), en P "__firstlineno__" 689 (.int 196 688), en P "__init__" 697 (.ref 395), en P "size" 704 (.ref 402), en P "room_left" 711 (.ref 409), en P "put" 720 (.ref 416), en P "part" 729 (.ref 423), en P "drop" 737 (.ref 430), en P "__static_attributes__" 740 (.ref 431), en P "__dict__" 742 (.ref 434), en P "__weakref__" 744 (.ref 435), en P "__doc__" 745 (.none)]) 4, #[]⟩
noncomputable def k433_4 (p : Program) (P : Params) : Obj := ⟨.type "type", none, .cls { name := so "SendQueue", bases := [.type "object"], mro := [.ref 433, .type "object"], ns := 432, qualname := so "SendQueue", hasDict := true, slotNames := [], subclasses := [], abstract := false, collection := none, hasDel := false }, #[none, none, some (sv "SendQueue" 678), some (sv "SendQueue" 686), some (.builtin "object.__new__"), some (.bool true)]⟩
noncomputable def k434_4 (p : Program) (P : Params) : Obj := ⟨.type "getset_descriptor", none, .fields #[sv "__dict__" 741, .ref 433, .builtin "function.__dict__", .builtin "function.__dict__#set"], #[]⟩
noncomputable def k435_4 (p : Program) (P : Params) : Obj := ⟨.type "getset_descriptor", none, .fields #[sv "__weakref__" 743, .ref 433, .builtin "ExceptionGroup.__weakref__", .none], #[]⟩
noncomputable def k436_4 (p : Program) (P : Params) : Obj := ⟨.type "super", none, .fields #[.ref 433, .ref 433, .ref 433], #[]⟩
noncomputable def k437_4 (p : Program) (P : Params) : Obj := ⟨.type "builtin_function_or_method", none, .fields #[.builtin "object.__init_subclass__", .ref 433], #[]⟩
noncomputable def k438_4 (p : Program) (P : Params) : Obj := ⟨.type "tuple", none, .seq #[] 0, #[]⟩
noncomputable def k439_4 (p : Program) (P : Params) : Obj := ⟨.type "builtin_function_or_method", none, .fields #[.builtin "type.__prepare__", .type "type"], #[]⟩
noncomputable def k440_4 (p : Program) (P : Params) : Obj := ⟨.type "dict", none, .dict (List.toArray [en P "__module__" 757 (sv "thinstack.sender" 748), en P "__qualname__" 759 (sv "PeerWindow" 758), en P "__firstlineno__" 761 (.int 225 760), en P "__init__" 769 (.ref 451), en P "is_newer" 779 (.ref 458), en P "take" 789 (.ref 465), en P "keep_edge" 797 (.ref 472), en P "__static_attributes__" 803 (.ref 473)]) 8, #[]⟩
noncomputable def k441_4 (p : Program) (P : Params) : Obj := ⟨.type "tuple", none, .seq #[] 0, #[]⟩
noncomputable def k442_4 (p : Program) (P : Params) : Obj := ⟨.none, none, .fields #[.int 227 0, .int 4 0, .ref 450, .int 234 0, .int 4 0, .ref 457, .int 242 0, .int 4 0, .ref 464, .int 251 0, .int 4 0, .ref 471], #[]⟩
noncomputable def k443_4 (p : Program) (P : Params) : Obj := ⟨.type "code", none, .fields #[sv "PeerWindow" 752, sv "PeerWindow" 753, sv "/claim/cut.py" 754, .int 225 0, .int 0 0, .int 0 0, .int 0 0, .int 0 0, .ref 441, .bool false, .int 181 0, .ref 442, .none, .none, .none, .none, .int 755 0, .int 225 0, sv "/claim/cut.py" 756], #[]⟩
noncomputable def k444_4 (p : Program) (P : Params) : Obj := ⟨.type "frame", none, .plain, #[some (.ref 443), some (.ref 3), some (.ref 440), none, some (sv "thinstack.sender" 748), none, some (.ref 0)]⟩
noncomputable def k445_4 (p : Program) (P : Params) : Obj := ⟨.type "tuple", none, .seq #[] 0, #[]⟩
noncomputable def k446_4 (p : Program) (P : Params) : Obj := ⟨.none, none, .fields #[], #[]⟩
noncomputable def k447_4 (p : Program) (P : Params) : Obj := ⟨.type "tuple", none, .seq #[sv "self" 765, sv "ring" 766] 0, #[]⟩
noncomputable def k448_4 (p : Program) (P : Params) : Obj := ⟨.type "tuple", none, .seq #[] 0, #[]⟩
noncomputable def k449_4 (p : Program) (P : Params) : Obj := fc (st p 23 (some 0)) "PeerWindow.__init__"
noncomputable def k450_4 (p : Program) (P : Params) : Obj := ⟨.type "code", none, .fields #[sv "__init__" 762, sv "PeerWindow.__init__" 763, sv "/claim/cut.py" 764, .int 227 0, .int 2 0, .int 0 0, .int 0 0, .int 3 0, .ref 445, .bool true, .int 181 0, .ref 446, .none, .ref 447, .ref 448, .ref 449, .int 767 0, .int 227 0, sv "/claim/cut.py" 768], #[]⟩
noncomputable def k451_4 (p : Program) (P : Params) : Obj := fo (st p 23 (some 0)) "PeerWindow.__init__" (.none) (sv "thinstack.sender" 748) (.ref 450)
noncomputable def k452_4 (p : Program) (P : Params) : Obj := ⟨.type "tuple", none, .seq #[] 0, #[]⟩
noncomputable def k453_4 (p : Program) (P : Params) : Obj := ⟨.none, none, .fields #[], #[]⟩
noncomputable def k454_4 (p : Program) (P : Params) : Obj := ⟨.type "tuple", none, .seq #[sv "self" 773, sv "seq" 774, sv "ack" 775, sv "ahead" 776] 0, #[]⟩
noncomputable def k455_4 (p : Program) (P : Params) : Obj := ⟨.type "tuple", none, .seq #[] 0, #[]⟩
noncomputable def k456_4 (p : Program) (P : Params) : Obj := fc (st p 23 (some 1)) "PeerWindow.is_newer"
noncomputable def k457_4 (p : Program) (P : Params) : Obj := ⟨.type "code", none, .fields #[sv "is_newer" 770, sv "PeerWindow.is_newer" 771, sv "/claim/cut.py" 772, .int 234 0, .int 3 0, .int 0 0, .int 0 0, .int 3 0, .ref 452, .bool true, .int 181 0, .ref 453, .none, .ref 454, .ref 455, .ref 456, .int 777 0, .int 234 0, sv "/claim/cut.py" 778], #[]⟩
noncomputable def k458_4 (p : Program) (P : Params) : Obj := fo (st p 23 (some 1)) "PeerWindow.is_newer" (.none) (sv "thinstack.sender" 748) (.ref 457)
noncomputable def k459_4 (p : Program) (P : Params) : Obj := ⟨.type "tuple", none, .seq #[] 0, #[]⟩
noncomputable def k460_4 (p : Program) (P : Params) : Obj := ⟨.none, none, .fields #[], #[]⟩
noncomputable def k461_4 (p : Program) (P : Params) : Obj := ⟨.type "tuple", none, .seq #[sv "self" 783, sv "seq" 784, sv "ack" 785, sv "size" 786] 0, #[]⟩
noncomputable def k462_4 (p : Program) (P : Params) : Obj := ⟨.type "tuple", none, .seq #[] 0, #[]⟩
noncomputable def k463_4 (p : Program) (P : Params) : Obj := fc (st p 23 (some 2)) "PeerWindow.take"
noncomputable def k464_4 (p : Program) (P : Params) : Obj := ⟨.type "code", none, .fields #[sv "take" 780, sv "PeerWindow.take" 781, sv "/claim/cut.py" 782, .int 242 0, .int 4 0, .int 0 0, .int 0 0, .int 3 0, .ref 459, .bool true, .int 181 0, .ref 460, .none, .ref 461, .ref 462, .ref 463, .int 787 0, .int 242 0, sv "/claim/cut.py" 788], #[]⟩
noncomputable def k465_4 (p : Program) (P : Params) : Obj := fo (st p 23 (some 2)) "PeerWindow.take" (.none) (sv "thinstack.sender" 748) (.ref 464)
noncomputable def k466_4 (p : Program) (P : Params) : Obj := ⟨.type "tuple", none, .seq #[] 0, #[]⟩
noncomputable def k467_4 (p : Program) (P : Params) : Obj := ⟨.none, none, .fields #[], #[]⟩
noncomputable def k468_4 (p : Program) (P : Params) : Obj := ⟨.type "tuple", none, .seq #[sv "self" 793, sv "many" 794] 0, #[]⟩
noncomputable def k469_4 (p : Program) (P : Params) : Obj := ⟨.type "tuple", none, .seq #[] 0, #[]⟩
noncomputable def k470_4 (p : Program) (P : Params) : Obj := fc (st p 23 (some 3)) "PeerWindow.keep_edge"
noncomputable def k471_4 (p : Program) (P : Params) : Obj := ⟨.type "code", none, .fields #[sv "keep_edge" 790, sv "PeerWindow.keep_edge" 791, sv "/claim/cut.py" 792, .int 251 0, .int 2 0, .int 0 0, .int 0 0, .int 3 0, .ref 466, .bool true, .int 181 0, .ref 467, .none, .ref 468, .ref 469, .ref 470, .int 795 0, .int 251 0, sv "/claim/cut.py" 796], #[]⟩
noncomputable def k472_4 (p : Program) (P : Params) : Obj := fo (st p 23 (some 3)) "PeerWindow.keep_edge" (.none) (sv "thinstack.sender" 748) (.ref 471)
noncomputable def k473_4 (p : Program) (P : Params) : Obj := ⟨.type "tuple", none, .seq #[sv "most" 798, sv "ring" 799, sv "size" 800, sv "told_ack" 801, sv "told_seq" 802] 0, #[]⟩
noncomputable def k474_4 (p : Program) (P : Params) : Obj := ⟨.type "dict", none, .dict (List.toArray [en P "__module__" 757 (sv "thinstack.sender" 748), en P "__firstlineno__" 761 (.int 225 760), en P "__init__" 769 (.ref 451), en P "is_newer" 779 (.ref 458), en P "take" 789 (.ref 465), en P "keep_edge" 797 (.ref 472), en P "__static_attributes__" 803 (.ref 473), en P "__dict__" 805 (.ref 476), en P "__weakref__" 807 (.ref 477), en P "__doc__" 808 (.none)]) 4, #[]⟩
noncomputable def k475_4 (p : Program) (P : Params) : Obj := ⟨.type "type", none, .cls { name := so "PeerWindow", bases := [.type "object"], mro := [.ref 475, .type "object"], ns := 474, qualname := so "PeerWindow", hasDict := true, slotNames := [], subclasses := [], abstract := false, collection := none, hasDel := false }, #[none, none, some (sv "PeerWindow" 750), some (sv "PeerWindow" 758), some (.builtin "object.__new__"), some (.bool true)]⟩
noncomputable def k476_4 (p : Program) (P : Params) : Obj := ⟨.type "getset_descriptor", none, .fields #[sv "__dict__" 804, .ref 475, .builtin "function.__dict__", .builtin "function.__dict__#set"], #[]⟩
noncomputable def k477_4 (p : Program) (P : Params) : Obj := ⟨.type "getset_descriptor", none, .fields #[sv "__weakref__" 806, .ref 475, .builtin "ExceptionGroup.__weakref__", .none], #[]⟩
noncomputable def k478_4 (p : Program) (P : Params) : Obj := ⟨.type "super", none, .fields #[.ref 475, .ref 475, .ref 475], #[]⟩
noncomputable def k479_4 (p : Program) (P : Params) : Obj := ⟨.type "builtin_function_or_method", none, .fields #[.builtin "object.__init_subclass__", .ref 475], #[]⟩
noncomputable def T4 (p : Program) (P : Params) : BT := (.node (k0_0 p P) (.node (k1_1 p P) (.node (k3_4 p P) (.node (k7_1 p P) (.node (k15_1 p P) (.node (k31_1 p P) (.node (k63_1 p P) (.node (k127_2 p P) (.node (k255_3 p P) .nil .nil) (.node (k383_4 p P) .nil .nil)) (.node (k191_2 p P) (.node (k319_3 p P) .nil .nil) (.node (k447_4 p P) .nil .nil))) (.node (k95_1 p P) (.node (k159_2 p P) (.node (k287_3 p P) .nil .nil) (.node (k415_4 p P) .nil .nil)) (.node (k223_2 p P) (.node (k351_3 p P) .nil .nil) (.node (k479_4 p P) .nil .nil)))) (.node (k47_1 p P) (.node (k79_1 p P) (.node (k143_2 p P) (.node (k271_3 p P) .nil .nil) (.node (k399_4 p P) .nil .nil)) (.node (k207_2 p P) (.node (k335_3 p P) .nil .nil) (.node (k463_4 p P) .nil .nil))) (.node (k111_2 p P) (.node (k175_2 p P) (.node (k303_3 p P) .nil .nil) (.node (k431_4 p P) .nil .nil)) (.node (k239_2 p P) (.node (k367_3 p P) .nil .nil) .nil)))) (.node (k23_1 p P) (.node (k39_1 p P) (.node (k71_1 p P) (.node (k135_2 p P) (.node (k263_3 p P) .nil .nil) (.node (k391_4 p P) .nil .nil)) (.node (k199_2 p P) (.node (k327_3 p P) .nil .nil) (.node (k455_4 p P) .nil .nil))) (.node (k103_2 p P) (.node (k167_2 p P) (.node (k295_3 p P) .nil .nil) (.node (k423_4 p P) .nil .nil)) (.node (k231_2 p P) (.node (k359_3 p P) .nil .nil) .nil))) (.node (k55_1 p P) (.node (k87_1 p P) (.node (k151_2 p P) (.node (k279_3 p P) .nil .nil) (.node (k407_4 p P) .nil .nil)) (.node (k215_2 p P) (.node (k343_3 p P) .nil .nil) (.node (k471_4 p P) .nil .nil))) (.node (k119_2 p P) (.node (k183_2 p P) (.node (k311_3 p P) .nil .nil) (.node (k439_4 p P) .nil .nil)) (.node (k247_2 p P) (.node (k375_3 p P) .nil .nil) .nil))))) (.node (k11_0 p P) (.node (k19_1 p P) (.node (k35_1 p P) (.node (k67_1 p P) (.node (k131_2 p P) (.node (k259_3 p P) .nil .nil) (.node (k387_4 p P) .nil .nil)) (.node (k195_2 p P) (.node (k323_3 p P) .nil .nil) (.node (k451_4 p P) .nil .nil))) (.node (k99_1 p P) (.node (k163_2 p P) (.node (k291_3 p P) .nil .nil) (.node (k419_4 p P) .nil .nil)) (.node (k227_2 p P) (.node (k355_3 p P) .nil .nil) .nil))) (.node (k51_1 p P) (.node (k83_1 p P) (.node (k147_2 p P) (.node (k275_3 p P) .nil .nil) (.node (k403_4 p P) .nil .nil)) (.node (k211_2 p P) (.node (k339_3 p P) .nil .nil) (.node (k467_4 p P) .nil .nil))) (.node (k115_2 p P) (.node (k179_2 p P) (.node (k307_3 p P) .nil .nil) (.node (k435_4 p P) .nil .nil)) (.node (k243_2 p P) (.node (k371_3 p P) .nil .nil) .nil)))) (.node (k27_1 p P) (.node (k43_1 p P) (.node (k75_1 p P) (.node (k139_2 p P) (.node (k267_3 p P) .nil .nil) (.node (k395_4 p P) .nil .nil)) (.node (k203_2 p P) (.node (k331_3 p P) .nil .nil) (.node (k459_4 p P) .nil .nil))) (.node (k107_2 p P) (.node (k171_2 p P) (.node (k299_3 p P) .nil .nil) (.node (k427_4 p P) .nil .nil)) (.node (k235_2 p P) (.node (k363_3 p P) .nil .nil) .nil))) (.node (k59_1 p P) (.node (k91_1 p P) (.node (k155_2 p P) (.node (k283_3 p P) .nil .nil) (.node (k411_4 p P) .nil .nil)) (.node (k219_2 p P) (.node (k347_3 p P) .nil .nil) (.node (k475_4 p P) .nil .nil))) (.node (k123_2 p P) (.node (k187_2 p P) (.node (k315_3 p P) .nil .nil) (.node (k443_4 p P) .nil .nil)) (.node (k251_3 p P) (.node (k379_3 p P) .nil .nil) .nil)))))) (.node (k5_1 p P) (.node (k9_1 p P) (.node (k17_1 p P) (.node (k33_1 p P) (.node (k65_1 p P) (.node (k129_2 p P) (.node (k257_3 p P) .nil .nil) (.node (k385_4 p P) .nil .nil)) (.node (k193_2 p P) (.node (k321_3 p P) .nil .nil) (.node (k449_4 p P) .nil .nil))) (.node (k97_1 p P) (.node (k161_2 p P) (.node (k289_3 p P) .nil .nil) (.node (k417_4 p P) .nil .nil)) (.node (k225_2 p P) (.node (k353_3 p P) .nil .nil) .nil))) (.node (k49_1 p P) (.node (k81_1 p P) (.node (k145_2 p P) (.node (k273_3 p P) .nil .nil) (.node (k401_4 p P) .nil .nil)) (.node (k209_2 p P) (.node (k337_3 p P) .nil .nil) (.node (k465_4 p P) .nil .nil))) (.node (k113_2 p P) (.node (k177_2 p P) (.node (k305_3 p P) .nil .nil) (.node (k433_4 p P) .nil .nil)) (.node (k241_2 p P) (.node (k369_3 p P) .nil .nil) .nil)))) (.node (k25_1 p P) (.node (k41_1 p P) (.node (k73_1 p P) (.node (k137_2 p P) (.node (k265_3 p P) .nil .nil) (.node (k393_4 p P) .nil .nil)) (.node (k201_2 p P) (.node (k329_3 p P) .nil .nil) (.node (k457_4 p P) .nil .nil))) (.node (k105_2 p P) (.node (k169_2 p P) (.node (k297_3 p P) .nil .nil) (.node (k425_4 p P) .nil .nil)) (.node (k233_2 p P) (.node (k361_3 p P) .nil .nil) .nil))) (.node (k57_1 p P) (.node (k89_1 p P) (.node (k153_2 p P) (.node (k281_3 p P) .nil .nil) (.node (k409_4 p P) .nil .nil)) (.node (k217_2 p P) (.node (k345_3 p P) .nil .nil) (.node (k473_4 p P) .nil .nil))) (.node (k121_2 p P) (.node (k185_2 p P) (.node (k313_3 p P) .nil .nil) (.node (k441_4 p P) .nil .nil)) (.node (k249_3 p P) (.node (k377_3 p P) .nil .nil) .nil))))) (.node (k13_0 p P) (.node (k21_1 p P) (.node (k37_1 p P) (.node (k69_1 p P) (.node (k133_2 p P) (.node (k261_3 p P) .nil .nil) (.node (k389_4 p P) .nil .nil)) (.node (k197_2 p P) (.node (k325_3 p P) .nil .nil) (.node (k453_4 p P) .nil .nil))) (.node (k101_2 p P) (.node (k165_2 p P) (.node (k293_3 p P) .nil .nil) (.node (k421_4 p P) .nil .nil)) (.node (k229_2 p P) (.node (k357_3 p P) .nil .nil) .nil))) (.node (k53_1 p P) (.node (k85_1 p P) (.node (k149_2 p P) (.node (k277_3 p P) .nil .nil) (.node (k405_4 p P) .nil .nil)) (.node (k213_2 p P) (.node (k341_3 p P) .nil .nil) (.node (k469_4 p P) .nil .nil))) (.node (k117_2 p P) (.node (k181_2 p P) (.node (k309_3 p P) .nil .nil) (.node (k437_4 p P) .nil .nil)) (.node (k245_2 p P) (.node (k373_3 p P) .nil .nil) .nil)))) (.node (k29_1 p P) (.node (k45_1 p P) (.node (k77_1 p P) (.node (k141_2 p P) (.node (k269_3 p P) .nil .nil) (.node (k397_4 p P) .nil .nil)) (.node (k205_2 p P) (.node (k333_3 p P) .nil .nil) (.node (k461_4 p P) .nil .nil))) (.node (k109_2 p P) (.node (k173_2 p P) (.node (k301_3 p P) .nil .nil) (.node (k429_4 p P) .nil .nil)) (.node (k237_2 p P) (.node (k365_3 p P) .nil .nil) .nil))) (.node (k61_1 p P) (.node (k93_1 p P) (.node (k157_2 p P) (.node (k285_3 p P) .nil .nil) (.node (k413_4 p P) .nil .nil)) (.node (k221_2 p P) (.node (k349_3 p P) .nil .nil) (.node (k477_4 p P) .nil .nil))) (.node (k125_2 p P) (.node (k189_2 p P) (.node (k317_3 p P) .nil .nil) (.node (k445_4 p P) .nil .nil)) (.node (k253_3 p P) (.node (k381_3 p P) .nil .nil) .nil))))))) (.node (k2_1 p P) (.node (k4_1 p P) (.node (k8_1 p P) (.node (k16_1 p P) (.node (k32_1 p P) (.node (k64_1 p P) (.node (k128_2 p P) (.node (k256_3 p P) .nil .nil) (.node (k384_4 p P) .nil .nil)) (.node (k192_2 p P) (.node (k320_3 p P) .nil .nil) (.node (k448_4 p P) .nil .nil))) (.node (k96_1 p P) (.node (k160_2 p P) (.node (k288_3 p P) .nil .nil) (.node (k416_4 p P) .nil .nil)) (.node (k224_2 p P) (.node (k352_3 p P) .nil .nil) .nil))) (.node (k48_1 p P) (.node (k80_1 p P) (.node (k144_2 p P) (.node (k272_3 p P) .nil .nil) (.node (k400_4 p P) .nil .nil)) (.node (k208_2 p P) (.node (k336_3 p P) .nil .nil) (.node (k464_4 p P) .nil .nil))) (.node (k112_2 p P) (.node (k176_2 p P) (.node (k304_3 p P) .nil .nil) (.node (k432_4 p P) .nil .nil)) (.node (k240_2 p P) (.node (k368_3 p P) .nil .nil) .nil)))) (.node (k24_1 p P) (.node (k40_1 p P) (.node (k72_1 p P) (.node (k136_2 p P) (.node (k264_3 p P) .nil .nil) (.node (k392_4 p P) .nil .nil)) (.node (k200_2 p P) (.node (k328_3 p P) .nil .nil) (.node (k456_4 p P) .nil .nil))) (.node (k104_2 p P) (.node (k168_2 p P) (.node (k296_3 p P) .nil .nil) (.node (k424_4 p P) .nil .nil)) (.node (k232_2 p P) (.node (k360_3 p P) .nil .nil) .nil))) (.node (k56_1 p P) (.node (k88_1 p P) (.node (k152_2 p P) (.node (k280_3 p P) .nil .nil) (.node (k408_4 p P) .nil .nil)) (.node (k216_2 p P) (.node (k344_3 p P) .nil .nil) (.node (k472_4 p P) .nil .nil))) (.node (k120_2 p P) (.node (k184_2 p P) (.node (k312_3 p P) .nil .nil) (.node (k440_4 p P) .nil .nil)) (.node (k248_2 p P) (.node (k376_3 p P) .nil .nil) .nil))))) (.node (k12_4 p P) (.node (k20_1 p P) (.node (k36_1 p P) (.node (k68_1 p P) (.node (k132_2 p P) (.node (k260_3 p P) .nil .nil) (.node (k388_4 p P) .nil .nil)) (.node (k196_2 p P) (.node (k324_3 p P) .nil .nil) (.node (k452_4 p P) .nil .nil))) (.node (k100_1 p P) (.node (k164_2 p P) (.node (k292_3 p P) .nil .nil) (.node (k420_4 p P) .nil .nil)) (.node (k228_2 p P) (.node (k356_3 p P) .nil .nil) .nil))) (.node (k52_1 p P) (.node (k84_1 p P) (.node (k148_2 p P) (.node (k276_3 p P) .nil .nil) (.node (k404_4 p P) .nil .nil)) (.node (k212_2 p P) (.node (k340_3 p P) .nil .nil) (.node (k468_4 p P) .nil .nil))) (.node (k116_2 p P) (.node (k180_2 p P) (.node (k308_3 p P) .nil .nil) (.node (k436_4 p P) .nil .nil)) (.node (k244_2 p P) (.node (k372_3 p P) .nil .nil) .nil)))) (.node (k28_1 p P) (.node (k44_1 p P) (.node (k76_1 p P) (.node (k140_2 p P) (.node (k268_3 p P) .nil .nil) (.node (k396_4 p P) .nil .nil)) (.node (k204_2 p P) (.node (k332_3 p P) .nil .nil) (.node (k460_4 p P) .nil .nil))) (.node (k108_2 p P) (.node (k172_2 p P) (.node (k300_3 p P) .nil .nil) (.node (k428_4 p P) .nil .nil)) (.node (k236_2 p P) (.node (k364_3 p P) .nil .nil) .nil))) (.node (k60_1 p P) (.node (k92_1 p P) (.node (k156_2 p P) (.node (k284_3 p P) .nil .nil) (.node (k412_4 p P) .nil .nil)) (.node (k220_2 p P) (.node (k348_3 p P) .nil .nil) (.node (k476_4 p P) .nil .nil))) (.node (k124_2 p P) (.node (k188_2 p P) (.node (k316_3 p P) .nil .nil) (.node (k444_4 p P) .nil .nil)) (.node (k252_3 p P) (.node (k380_3 p P) .nil .nil) .nil)))))) (.node (k6_1 p P) (.node (k10_1 p P) (.node (k18_1 p P) (.node (k34_1 p P) (.node (k66_1 p P) (.node (k130_2 p P) (.node (k258_3 p P) .nil .nil) (.node (k386_4 p P) .nil .nil)) (.node (k194_2 p P) (.node (k322_3 p P) .nil .nil) (.node (k450_4 p P) .nil .nil))) (.node (k98_1 p P) (.node (k162_2 p P) (.node (k290_3 p P) .nil .nil) (.node (k418_4 p P) .nil .nil)) (.node (k226_2 p P) (.node (k354_3 p P) .nil .nil) .nil))) (.node (k50_1 p P) (.node (k82_1 p P) (.node (k146_2 p P) (.node (k274_3 p P) .nil .nil) (.node (k402_4 p P) .nil .nil)) (.node (k210_2 p P) (.node (k338_3 p P) .nil .nil) (.node (k466_4 p P) .nil .nil))) (.node (k114_2 p P) (.node (k178_2 p P) (.node (k306_3 p P) .nil .nil) (.node (k434_4 p P) .nil .nil)) (.node (k242_2 p P) (.node (k370_3 p P) .nil .nil) .nil)))) (.node (k26_1 p P) (.node (k42_1 p P) (.node (k74_1 p P) (.node (k138_2 p P) (.node (k266_3 p P) .nil .nil) (.node (k394_4 p P) .nil .nil)) (.node (k202_2 p P) (.node (k330_3 p P) .nil .nil) (.node (k458_4 p P) .nil .nil))) (.node (k106_2 p P) (.node (k170_2 p P) (.node (k298_3 p P) .nil .nil) (.node (k426_4 p P) .nil .nil)) (.node (k234_2 p P) (.node (k362_3 p P) .nil .nil) .nil))) (.node (k58_1 p P) (.node (k90_1 p P) (.node (k154_2 p P) (.node (k282_3 p P) .nil .nil) (.node (k410_4 p P) .nil .nil)) (.node (k218_2 p P) (.node (k346_3 p P) .nil .nil) (.node (k474_4 p P) .nil .nil))) (.node (k122_2 p P) (.node (k186_2 p P) (.node (k314_3 p P) .nil .nil) (.node (k442_4 p P) .nil .nil)) (.node (k250_3 p P) (.node (k378_3 p P) .nil .nil) .nil))))) (.node (k14_0 p P) (.node (k22_1 p P) (.node (k38_1 p P) (.node (k70_1 p P) (.node (k134_2 p P) (.node (k262_3 p P) .nil .nil) (.node (k390_4 p P) .nil .nil)) (.node (k198_2 p P) (.node (k326_3 p P) .nil .nil) (.node (k454_4 p P) .nil .nil))) (.node (k102_2 p P) (.node (k166_2 p P) (.node (k294_3 p P) .nil .nil) (.node (k422_4 p P) .nil .nil)) (.node (k230_2 p P) (.node (k358_3 p P) .nil .nil) .nil))) (.node (k54_1 p P) (.node (k86_1 p P) (.node (k150_2 p P) (.node (k278_3 p P) .nil .nil) (.node (k406_4 p P) .nil .nil)) (.node (k214_2 p P) (.node (k342_3 p P) .nil .nil) (.node (k470_4 p P) .nil .nil))) (.node (k118_2 p P) (.node (k182_2 p P) (.node (k310_3 p P) .nil .nil) (.node (k438_4 p P) .nil .nil)) (.node (k246_2 p P) (.node (k374_3 p P) .nil .nil) .nil)))) (.node (k30_1 p P) (.node (k46_1 p P) (.node (k78_1 p P) (.node (k142_2 p P) (.node (k270_3 p P) .nil .nil) (.node (k398_4 p P) .nil .nil)) (.node (k206_2 p P) (.node (k334_3 p P) .nil .nil) (.node (k462_4 p P) .nil .nil))) (.node (k110_2 p P) (.node (k174_2 p P) (.node (k302_3 p P) .nil .nil) (.node (k430_4 p P) .nil .nil)) (.node (k238_2 p P) (.node (k366_3 p P) .nil .nil) .nil))) (.node (k62_1 p P) (.node (k94_1 p P) (.node (k158_2 p P) (.node (k286_3 p P) .nil .nil) (.node (k414_4 p P) .nil .nil)) (.node (k222_2 p P) (.node (k350_3 p P) .nil .nil) (.node (k478_4 p P) .nil .nil))) (.node (k126_2 p P) (.node (k190_2 p P) (.node (k318_3 p P) .nil .nil) (.node (k446_4 p P) .nil .nil)) (.node (k254_3 p P) (.node (k382_4 p P) .nil .nil) .nil))))))))
noncomputable def S4 (p : Program) (w : World) (os : OsState) : SharedT := ⟨T4 p w.params, 480, {}, #[], {}, 811, os⟩
def pos4 : Pos := ⟨225, 0, 252, 17⟩
noncomputable def k3_5 (p : Program) (P : Params) : Obj := ⟨.type "dict", none, .dict (List.toArray (en P "__name__" 165 (sv "thinstack.octets" 1049) :: (ents3 P).take 25)) 26, #[]⟩
noncomputable def k12_5 (p : Program) (P : Params) : Obj := ⟨.none, none, .fields (List.toArray (vals12.take 48)), #[]⟩
noncomputable def k480_5 (p : Program) (P : Params) : Obj := ⟨.type "tuple", none, .seq #[] 0, #[]⟩
noncomputable def k481_5 (p : Program) (P : Params) : Obj := ⟨.type "builtin_function_or_method", none, .fields #[.builtin "type.__prepare__", .type "type"], #[]⟩
noncomputable def k482_5 (p : Program) (P : Params) : Obj := ⟨.type "dict", none, .dict (List.toArray [en P "__module__" 818 (sv "thinstack.sender" 748), en P "__qualname__" 820 (sv "Sender" 819), en P "__firstlineno__" 822 (.int 253 821), en P "__init__" 833 (.ref 493), en P "window" 841 (.ref 501), en P "take_window" 851 (.ref 508), en P "put" 859 (.ref 515), en P "ask_fin" 866 (.ref 522), en P "flight" 873 (.ref 529), en P "usable" 881 (.ref 536), en P "data_sent" 888 (.ref 543), en P "unsent" 895 (.ref 550), en P "is_fin_due" 903 (.ref 557), en P "is_fin_acked" 910 (.ref 564), en P "is_all_acked" 917 (.ref 571), en P "go_on" 925 (.ref 578), en P "start" 932 (.ref 585), en P "may_go" 941 (.ref 592), en P "pieces" 952 (.ref 600), en P "piece_of" 965 (.ref 607), en P "ever_sent" 972 (.ref 614), en P "first_piece" 979 (.ref 621), en P "reach" 987 (.ref 628), en P "back_to" 995 (.ref 635), en P "is_idle_with_more" 1002 (.ref 642), en P "needs_probe" 1010 (.ref 649), en P "probe" 1017 (.ref 656), en P "acked" 1029 (.ref 663), en P "__static_attributes__" 1041 (.ref 664)]) 29, #[]⟩
noncomputable def k483_5 (p : Program) (P : Params) : Obj := ⟨.type "tuple", none, .seq #[] 0, #[]⟩
noncomputable def k484_5 (p : Program) (P : Params) : Obj := ⟨.none, none, .fields #[.int 255 0, .int 4 0, .ref 492, .int 269 0, .int 4 0, .ref 499, .int 272 0, .int 4 0, .ref 507, .int 275 0, .int 4 0, .ref 514, .int 280 0, .int 4 0, .ref 521, .int 283 0, .int 4 0, .ref 528, .int 286 0, .int 4 0, .ref 535, .int 289 0, .int 4 0, .ref 542, .int 292 0, .int 4 0, .ref 549, .int 295 0, .int 4 0, .ref 556, .int 299 0, .int 4 0, .ref 563, .int 302 0, .int 4 0, .ref 570, .int 305 0, .int 4 0, .ref 577, .int 309 0, .int 4 0, .ref 584, .int 316 0, .int 4 0, .ref 591, .int 323 0, .int 4 0, .ref 599, .int 338 0, .int 4 0, .ref 606, .int 347 0, .int 4 0, .ref 613, .int 350 0, .int 4 0, .ref 620, .int 353 0, .int 4 0, .ref 627, .int 356 0, .int 4 0, .ref 634, .int 359 0, .int 4 0, .ref 641, .int 364 0, .int 4 0, .ref 648, .int 372 0, .int 4 0, .ref 655, .int 383 0, .int 4 0, .ref 662], #[]⟩
noncomputable def k485_5 (p : Program) (P : Params) : Obj := ⟨.type "code", none, .fields #[sv "Sender" 813, sv "Sender" 814, sv "/claim/cut.py" 815, .int 253 0, .int 0 0, .int 0 0, .int 0 0, .int 0 0, .ref 483, .bool false, .int 181 0, .ref 484, .none, .none, .none, .none, .int 816 0, .int 253 0, sv "/claim/cut.py" 817], #[]⟩
noncomputable def k486_5 (p : Program) (P : Params) : Obj := ⟨.type "frame", none, .plain, #[some (.ref 485), some (.ref 3), some (.ref 482), none, some (sv "thinstack.sender" 748), none, some (.ref 0)]⟩
noncomputable def k487_5 (p : Program) (P : Params) : Obj := ⟨.type "tuple", none, .seq #[] 0, #[]⟩
noncomputable def k488_5 (p : Program) (P : Params) : Obj := ⟨.none, none, .fields #[], #[]⟩
noncomputable def k489_5 (p : Program) (P : Params) : Obj := ⟨.type "tuple", none, .seq #[sv "self" 826, sv "iss" 827, sv "ring" 828, sv "mss" 829, sv "room" 830] 0, #[]⟩
noncomputable def k490_5 (p : Program) (P : Params) : Obj := ⟨.type "tuple", none, .seq #[] 0, #[]⟩
noncomputable def k491_5 (p : Program) (P : Params) : Obj := fc (st p 24 (some 0)) "Sender.__init__"
noncomputable def k492_5 (p : Program) (P : Params) : Obj := ⟨.type "code", none, .fields #[sv "__init__" 823, sv "Sender.__init__" 824, sv "/claim/cut.py" 825, .int 255 0, .int 5 0, .int 0 0, .int 0 0, .int 3 0, .ref 487, .bool true, .int 181 0, .ref 488, .none, .ref 489, .ref 490, .ref 491, .int 831 0, .int 255 0, sv "/claim/cut.py" 832], #[]⟩
noncomputable def k493_5 (p : Program) (P : Params) : Obj := fo (st p 24 (some 0)) "Sender.__init__" (.none) (sv "thinstack.sender" 748) (.ref 492)
noncomputable def k494_5 (p : Program) (P : Params) : Obj := ⟨.type "tuple", none, .seq #[] 0, #[]⟩
noncomputable def k495_5 (p : Program) (P : Params) : Obj := ⟨.none, none, .fields #[], #[]⟩
noncomputable def k496_5 (p : Program) (P : Params) : Obj := ⟨.type "tuple", none, .seq #[sv "self" 837] 0, #[]⟩
noncomputable def k497_5 (p : Program) (P : Params) : Obj := ⟨.type "tuple", none, .seq #[] 0, #[]⟩
noncomputable def k498_5 (p : Program) (P : Params) : Obj := fc (st p 24 (some 1)) "Sender.window"
noncomputable def k499_5 (p : Program) (P : Params) : Obj := ⟨.type "code", none, .fields #[sv "window" 834, sv "Sender.window" 835, sv "/claim/cut.py" 836, .int 268 0, .int 1 0, .int 0 0, .int 0 0, .int 3 0, .ref 494, .bool true, .int 181 0, .ref 495, .none, .ref 496, .ref 497, .ref 498, .int 838 0, .int 268 0, sv "/claim/cut.py" 839], #[]⟩
noncomputable def k500_5 (p : Program) (P : Params) : Obj := fo (st p 24 (some 1)) "Sender.window" (.none) (sv "thinstack.sender" 748) (.ref 499)
noncomputable def k501_5 (p : Program) (P : Params) : Obj := ⟨.type "property", none, .fields #[.ref 500, .none, .none, .none, sv "window" 841, .bool false], #[]⟩
noncomputable def k502_5 (p : Program) (P : Params) : Obj := ⟨.type "tuple", none, .seq #[] 0, #[]⟩
noncomputable def k503_5 (p : Program) (P : Params) : Obj := ⟨.none, none, .fields #[], #[]⟩
noncomputable def k504_5 (p : Program) (P : Params) : Obj := ⟨.type "tuple", none, .seq #[sv "self" 845, sv "seq" 846, sv "ack" 847, sv "window" 848] 0, #[]⟩
noncomputable def k505_5 (p : Program) (P : Params) : Obj := ⟨.type "tuple", none, .seq #[] 0, #[]⟩
noncomputable def k506_5 (p : Program) (P : Params) : Obj := fc (st p 24 (some 2)) "Sender.take_window"
noncomputable def k507_5 (p : Program) (P : Params) : Obj := ⟨.type "code", none, .fields #[sv "take_window" 842, sv "Sender.take_window" 843, sv "/claim/cut.py" 844, .int 272 0, .int 4 0, .int 0 0, .int 0 0, .int 3 0, .ref 502, .bool true, .int 181 0, .ref 503, .none, .ref 504, .ref 505, .ref 506, .int 849 0, .int 272 0, sv "/claim/cut.py" 850], #[]⟩
noncomputable def k508_5 (p : Program) (P : Params) : Obj := fo (st p 24 (some 2)) "Sender.take_window" (.none) (sv "thinstack.sender" 748) (.ref 507)
noncomputable def k509_5 (p : Program) (P : Params) : Obj := ⟨.type "tuple", none, .seq #[] 0, #[]⟩
noncomputable def k510_5 (p : Program) (P : Params) : Obj := ⟨.none, none, .fields #[], #[]⟩
noncomputable def k511_5 (p : Program) (P : Params) : Obj := ⟨.type "tuple", none, .seq #[sv "self" 855, sv "octets" 856] 0, #[]⟩
noncomputable def k512_5 (p : Program) (P : Params) : Obj := ⟨.type "tuple", none, .seq #[] 0, #[]⟩
noncomputable def k513_5 (p : Program) (P : Params) : Obj := fc (st p 24 (some 3)) "Sender.put"
noncomputable def k514_5 (p : Program) (P : Params) : Obj := ⟨.type "code", none, .fields #[sv "put" 852, sv "Sender.put" 853, sv "/claim/cut.py" 854, .int 275 0, .int 2 0, .int 0 0, .int 0 0, .int 3 0, .ref 509, .bool true, .int 181 0, .ref 510, .none, .ref 511, .ref 512, .ref 513, .int 857 0, .int 275 0, sv "/claim/cut.py" 858], #[]⟩
noncomputable def k515_5 (p : Program) (P : Params) : Obj := fo (st p 24 (some 3)) "Sender.put" (.none) (sv "thinstack.sender" 748) (.ref 514)
noncomputable def k516_5 (p : Program) (P : Params) : Obj := ⟨.type "tuple", none, .seq #[] 0, #[]⟩
noncomputable def k517_5 (p : Program) (P : Params) : Obj := ⟨.none, none, .fields #[], #[]⟩
noncomputable def k518_5 (p : Program) (P : Params) : Obj := ⟨.type "tuple", none, .seq #[sv "self" 863] 0, #[]⟩
noncomputable def k519_5 (p : Program) (P : Params) : Obj := ⟨.type "tuple", none, .seq #[] 0, #[]⟩
noncomputable def k520_5 (p : Program) (P : Params) : Obj := fc (st p 24 (some 4)) "Sender.ask_fin"
noncomputable def k521_5 (p : Program) (P : Params) : Obj := ⟨.type "code", none, .fields #[sv "ask_fin" 860, sv "Sender.ask_fin" 861, sv "/claim/cut.py" 862, .int 280 0, .int 1 0, .int 0 0, .int 0 0, .int 3 0, .ref 516, .bool true, .int 181 0, .ref 517, .none, .ref 518, .ref 519, .ref 520, .int 864 0, .int 280 0, sv "/claim/cut.py" 865], #[]⟩
noncomputable def k522_5 (p : Program) (P : Params) : Obj := fo (st p 24 (some 4)) "Sender.ask_fin" (.none) (sv "thinstack.sender" 748) (.ref 521)
noncomputable def k523_5 (p : Program) (P : Params) : Obj := ⟨.type "tuple", none, .seq #[] 0, #[]⟩
noncomputable def k524_5 (p : Program) (P : Params) : Obj := ⟨.none, none, .fields #[], #[]⟩
noncomputable def k525_5 (p : Program) (P : Params) : Obj := ⟨.type "tuple", none, .seq #[sv "self" 870] 0, #[]⟩
noncomputable def k526_5 (p : Program) (P : Params) : Obj := ⟨.type "tuple", none, .seq #[] 0, #[]⟩
noncomputable def k527_5 (p : Program) (P : Params) : Obj := fc (st p 24 (some 5)) "Sender.flight"
noncomputable def k528_5 (p : Program) (P : Params) : Obj := ⟨.type "code", none, .fields #[sv "flight" 867, sv "Sender.flight" 868, sv "/claim/cut.py" 869, .int 283 0, .int 1 0, .int 0 0, .int 0 0, .int 3 0, .ref 523, .bool true, .int 181 0, .ref 524, .none, .ref 525, .ref 526, .ref 527, .int 871 0, .int 283 0, sv "/claim/cut.py" 872], #[]⟩
noncomputable def k529_5 (p : Program) (P : Params) : Obj := fo (st p 24 (some 5)) "Sender.flight" (.none) (sv "thinstack.sender" 748) (.ref 528)
noncomputable def k530_5 (p : Program) (P : Params) : Obj := ⟨.type "tuple", none, .seq #[] 0, #[]⟩
noncomputable def k531_5 (p : Program) (P : Params) : Obj := ⟨.none, none, .fields #[], #[]⟩
noncomputable def k532_5 (p : Program) (P : Params) : Obj := ⟨.type "tuple", none, .seq #[sv "self" 877, sv "congestion_window" 878] 0, #[]⟩
noncomputable def k533_5 (p : Program) (P : Params) : Obj := ⟨.type "tuple", none, .seq #[] 0, #[]⟩
noncomputable def k534_5 (p : Program) (P : Params) : Obj := fc (st p 24 (some 6)) "Sender.usable"
noncomputable def k535_5 (p : Program) (P : Params) : Obj := ⟨.type "code", none, .fields #[sv "usable" 874, sv "Sender.usable" 875, sv "/claim/cut.py" 876, .int 286 0, .int 2 0, .int 0 0, .int 0 0, .int 3 0, .ref 530, .bool true, .int 181 0, .ref 531, .none, .ref 532, .ref 533, .ref 534, .int 879 0, .int 286 0, sv "/claim/cut.py" 880], #[]⟩
noncomputable def k536_5 (p : Program) (P : Params) : Obj := fo (st p 24 (some 6)) "Sender.usable" (.none) (sv "thinstack.sender" 748) (.ref 535)
noncomputable def k537_5 (p : Program) (P : Params) : Obj := ⟨.type "tuple", none, .seq #[] 0, #[]⟩
noncomputable def k538_5 (p : Program) (P : Params) : Obj := ⟨.none, none, .fields #[], #[]⟩
noncomputable def k539_5 (p : Program) (P : Params) : Obj := ⟨.type "tuple", none, .seq #[sv "self" 885] 0, #[]⟩
noncomputable def k540_5 (p : Program) (P : Params) : Obj := ⟨.type "tuple", none, .seq #[] 0, #[]⟩
noncomputable def k541_5 (p : Program) (P : Params) : Obj := fc (st p 24 (some 7)) "Sender.data_sent"
noncomputable def k542_5 (p : Program) (P : Params) : Obj := ⟨.type "code", none, .fields #[sv "data_sent" 882, sv "Sender.data_sent" 883, sv "/claim/cut.py" 884, .int 289 0, .int 1 0, .int 0 0, .int 0 0, .int 3 0, .ref 537, .bool true, .int 181 0, .ref 538, .none, .ref 539, .ref 540, .ref 541, .int 886 0, .int 289 0, sv "/claim/cut.py" 887], #[]⟩
noncomputable def k543_5 (p : Program) (P : Params) : Obj := fo (st p 24 (some 7)) "Sender.data_sent" (.none) (sv "thinstack.sender" 748) (.ref 542)
noncomputable def k544_5 (p : Program) (P : Params) : Obj := ⟨.type "tuple", none, .seq #[] 0, #[]⟩
noncomputable def k545_5 (p : Program) (P : Params) : Obj := ⟨.none, none, .fields #[], #[]⟩
noncomputable def k546_5 (p : Program) (P : Params) : Obj := ⟨.type "tuple", none, .seq #[sv "self" 892] 0, #[]⟩
noncomputable def k547_5 (p : Program) (P : Params) : Obj := ⟨.type "tuple", none, .seq #[] 0, #[]⟩
noncomputable def k548_5 (p : Program) (P : Params) : Obj := fc (st p 24 (some 8)) "Sender.unsent"
noncomputable def k549_5 (p : Program) (P : Params) : Obj := ⟨.type "code", none, .fields #[sv "unsent" 889, sv "Sender.unsent" 890, sv "/claim/cut.py" 891, .int 292 0, .int 1 0, .int 0 0, .int 0 0, .int 3 0, .ref 544, .bool true, .int 181 0, .ref 545, .none, .ref 546, .ref 547, .ref 548, .int 893 0, .int 292 0, sv "/claim/cut.py" 894], #[]⟩
noncomputable def k550_5 (p : Program) (P : Params) : Obj := fo (st p 24 (some 8)) "Sender.unsent" (.none) (sv "thinstack.sender" 748) (.ref 549)
noncomputable def k551_5 (p : Program) (P : Params) : Obj := ⟨.type "tuple", none, .seq #[] 0, #[]⟩
noncomputable def k552_5 (p : Program) (P : Params) : Obj := ⟨.none, none, .fields #[], #[]⟩
noncomputable def k553_5 (p : Program) (P : Params) : Obj := ⟨.type "tuple", none, .seq #[sv "self" 899, sv "room" 900] 0, #[]⟩
noncomputable def k554_5 (p : Program) (P : Params) : Obj := ⟨.type "tuple", none, .seq #[] 0, #[]⟩
noncomputable def k555_5 (p : Program) (P : Params) : Obj := fc (st p 24 (some 9)) "Sender.is_fin_due"
noncomputable def k556_5 (p : Program) (P : Params) : Obj := ⟨.type "code", none, .fields #[sv "is_fin_due" 896, sv "Sender.is_fin_due" 897, sv "/claim/cut.py" 898, .int 295 0, .int 1 0, .int 0 0, .int 0 0, .int 3 0, .ref 551, .bool true, .int 181 0, .ref 552, .none, .ref 553, .ref 554, .ref 555, .int 901 0, .int 295 0, sv "/claim/cut.py" 902], #[]⟩
noncomputable def k557_5 (p : Program) (P : Params) : Obj := fo (st p 24 (some 9)) "Sender.is_fin_due" (.none) (sv "thinstack.sender" 748) (.ref 556)
noncomputable def k558_5 (p : Program) (P : Params) : Obj := ⟨.type "tuple", none, .seq #[] 0, #[]⟩
noncomputable def k559_5 (p : Program) (P : Params) : Obj := ⟨.none, none, .fields #[], #[]⟩
noncomputable def k560_5 (p : Program) (P : Params) : Obj := ⟨.type "tuple", none, .seq #[sv "self" 907] 0, #[]⟩
noncomputable def k561_5 (p : Program) (P : Params) : Obj := ⟨.type "tuple", none, .seq #[] 0, #[]⟩
noncomputable def k562_5 (p : Program) (P : Params) : Obj := fc (st p 24 (some 10)) "Sender.is_fin_acked"
noncomputable def k563_5 (p : Program) (P : Params) : Obj := ⟨.type "code", none, .fields #[sv "is_fin_acked" 904, sv "Sender.is_fin_acked" 905, sv "/claim/cut.py" 906, .int 299 0, .int 1 0, .int 0 0, .int 0 0, .int 3 0, .ref 558, .bool true, .int 181 0, .ref 559, .none, .ref 560, .ref 561, .ref 562, .int 908 0, .int 299 0, sv "/claim/cut.py" 909], #[]⟩
noncomputable def k564_5 (p : Program) (P : Params) : Obj := fo (st p 24 (some 10)) "Sender.is_fin_acked" (.none) (sv "thinstack.sender" 748) (.ref 563)
noncomputable def k565_5 (p : Program) (P : Params) : Obj := ⟨.type "tuple", none, .seq #[] 0, #[]⟩
noncomputable def k566_5 (p : Program) (P : Params) : Obj := ⟨.none, none, .fields #[], #[]⟩
noncomputable def k567_5 (p : Program) (P : Params) : Obj := ⟨.type "tuple", none, .seq #[sv "self" 914] 0, #[]⟩
noncomputable def k568_5 (p : Program) (P : Params) : Obj := ⟨.type "tuple", none, .seq #[] 0, #[]⟩
noncomputable def k569_5 (p : Program) (P : Params) : Obj := fc (st p 24 (some 11)) "Sender.is_all_acked"
noncomputable def k570_5 (p : Program) (P : Params) : Obj := ⟨.type "code", none, .fields #[sv "is_all_acked" 911, sv "Sender.is_all_acked" 912, sv "/claim/cut.py" 913, .int 302 0, .int 1 0, .int 0 0, .int 0 0, .int 3 0, .ref 565, .bool true, .int 181 0, .ref 566, .none, .ref 567, .ref 568, .ref 569, .int 915 0, .int 302 0, sv "/claim/cut.py" 916], #[]⟩
noncomputable def k571_5 (p : Program) (P : Params) : Obj := fo (st p 24 (some 11)) "Sender.is_all_acked" (.none) (sv "thinstack.sender" 748) (.ref 570)
noncomputable def k572_5 (p : Program) (P : Params) : Obj := ⟨.type "tuple", none, .seq #[] 0, #[]⟩
noncomputable def k573_5 (p : Program) (P : Params) : Obj := ⟨.none, none, .fields #[], #[]⟩
noncomputable def k574_5 (p : Program) (P : Params) : Obj := ⟨.type "tuple", none, .seq #[sv "self" 921, sv "many" 922] 0, #[]⟩
noncomputable def k575_5 (p : Program) (P : Params) : Obj := ⟨.type "tuple", none, .seq #[] 0, #[]⟩
noncomputable def k576_5 (p : Program) (P : Params) : Obj := fc (st p 24 (some 12)) "Sender.go_on"
noncomputable def k577_5 (p : Program) (P : Params) : Obj := ⟨.type "code", none, .fields #[sv "go_on" 918, sv "Sender.go_on" 919, sv "/claim/cut.py" 920, .int 305 0, .int 2 0, .int 0 0, .int 0 0, .int 3 0, .ref 572, .bool true, .int 181 0, .ref 573, .none, .ref 574, .ref 575, .ref 576, .int 923 0, .int 305 0, sv "/claim/cut.py" 924], #[]⟩
noncomputable def k578_5 (p : Program) (P : Params) : Obj := fo (st p 24 (some 12)) "Sender.go_on" (.none) (sv "thinstack.sender" 748) (.ref 577)
noncomputable def k579_5 (p : Program) (P : Params) : Obj := ⟨.type "tuple", none, .seq #[] 0, #[]⟩
noncomputable def k580_5 (p : Program) (P : Params) : Obj := ⟨.none, none, .fields #[], #[]⟩
noncomputable def k581_5 (p : Program) (P : Params) : Obj := ⟨.type "tuple", none, .seq #[sv "self" 929] 0, #[]⟩
noncomputable def k582_5 (p : Program) (P : Params) : Obj := ⟨.type "tuple", none, .seq #[] 0, #[]⟩
noncomputable def k583_5 (p : Program) (P : Params) : Obj := fc (st p 24 (some 13)) "Sender.start"
noncomputable def k584_5 (p : Program) (P : Params) : Obj := ⟨.type "code", none, .fields #[sv "start" 926, sv "Sender.start" 927, sv "/claim/cut.py" 928, .int 309 0, .int 1 0, .int 0 0, .int 0 0, .int 3 0, .ref 579, .bool true, .int 181 0, .ref 580, .none, .ref 581, .ref 582, .ref 583, .int 930 0, .int 309 0, sv "/claim/cut.py" 931], #[]⟩
noncomputable def k585_5 (p : Program) (P : Params) : Obj := fo (st p 24 (some 13)) "Sender.start" (.none) (sv "thinstack.sender" 748) (.ref 584)
noncomputable def k586_5 (p : Program) (P : Params) : Obj := ⟨.type "tuple", none, .seq #[] 0, #[]⟩
noncomputable def k587_5 (p : Program) (P : Params) : Obj := ⟨.none, none, .fields #[], #[]⟩
noncomputable def k588_5 (p : Program) (P : Params) : Obj := ⟨.type "tuple", none, .seq #[sv "self" 936, sv "many" 937, sv "is_nagle" 938] 0, #[]⟩
noncomputable def k589_5 (p : Program) (P : Params) : Obj := ⟨.type "tuple", none, .seq #[] 0, #[]⟩
noncomputable def k590_5 (p : Program) (P : Params) : Obj := fc (st p 24 (some 14)) "Sender.may_go"
noncomputable def k591_5 (p : Program) (P : Params) : Obj := ⟨.type "code", none, .fields #[sv "may_go" 933, sv "Sender.may_go" 934, sv "/claim/cut.py" 935, .int 316 0, .int 3 0, .int 0 0, .int 0 0, .int 3 0, .ref 586, .bool true, .int 181 0, .ref 587, .none, .ref 588, .ref 589, .ref 590, .int 939 0, .int 316 0, sv "/claim/cut.py" 940], #[]⟩
noncomputable def k592_5 (p : Program) (P : Params) : Obj := fo (st p 24 (some 14)) "Sender.may_go" (.none) (sv "thinstack.sender" 748) (.ref 591)
noncomputable def k593_5 (p : Program) (P : Params) : Obj := ⟨.type "tuple", none, .seq #[.bool true] 0, #[]⟩
noncomputable def k594_5 (p : Program) (P : Params) : Obj := ⟨.type "tuple", none, .seq #[] 0, #[]⟩
noncomputable def k595_5 (p : Program) (P : Params) : Obj := ⟨.none, none, .fields #[], #[]⟩
noncomputable def k596_5 (p : Program) (P : Params) : Obj := ⟨.type "tuple", none, .seq #[sv "self" 945, sv "congestion_window" 946, sv "is_nagle" 947, sv "found" 948, sv "many" 949] 0, #[]⟩
noncomputable def k597_5 (p : Program) (P : Params) : Obj := ⟨.type "tuple", none, .seq #[] 0, #[]⟩
noncomputable def k598_5 (p : Program) (P : Params) : Obj := fc (st p 24 (some 15)) "Sender.pieces"
noncomputable def k599_5 (p : Program) (P : Params) : Obj := ⟨.type "code", none, .fields #[sv "pieces" 942, sv "Sender.pieces" 943, sv "/claim/cut.py" 944, .int 323 0, .int 3 0, .int 0 0, .int 0 0, .int 3 0, .ref 594, .bool true, .int 181 0, .ref 595, .none, .ref 596, .ref 597, .ref 598, .int 950 0, .int 323 0, sv "/claim/cut.py" 951], #[]⟩
noncomputable def k600_5 (p : Program) (P : Params) : Obj := fo (st p 24 (some 15)) "Sender.pieces" (.ref 593) (sv "thinstack.sender" 748) (.ref 599)
noncomputable def k601_5 (p : Program) (P : Params) : Obj := ⟨.type "tuple", none, .seq #[] 0, #[]⟩
noncomputable def k602_5 (p : Program) (P : Params) : Obj := ⟨.none, none, .fields #[], #[]⟩
noncomputable def k603_5 (p : Program) (P : Params) : Obj := ⟨.type "tuple", none, .seq #[sv "self" 956, sv "many" 957, sv "congestion_window" 958, sv "seq" 959, sv "octets" 960, sv "is_last" 961, sv "has_fin" 962] 0, #[]⟩
noncomputable def k604_5 (p : Program) (P : Params) : Obj := ⟨.type "tuple", none, .seq #[] 0, #[]⟩
noncomputable def k605_5 (p : Program) (P : Params) : Obj := fc (st p 24 (some 16)) "Sender.piece_of"
noncomputable def k606_5 (p : Program) (P : Params) : Obj := ⟨.type "code", none, .fields #[sv "piece_of" 953, sv "Sender.piece_of" 954, sv "/claim/cut.py" 955, .int 338 0, .int 3 0, .int 0 0, .int 0 0, .int 3 0, .ref 601, .bool true, .int 181 0, .ref 602, .none, .ref 603, .ref 604, .ref 605, .int 963 0, .int 338 0, sv "/claim/cut.py" 964], #[]⟩
noncomputable def k607_5 (p : Program) (P : Params) : Obj := fo (st p 24 (some 16)) "Sender.piece_of" (.none) (sv "thinstack.sender" 748) (.ref 606)
noncomputable def k608_5 (p : Program) (P : Params) : Obj := ⟨.type "tuple", none, .seq #[] 0, #[]⟩
noncomputable def k609_5 (p : Program) (P : Params) : Obj := ⟨.none, none, .fields #[], #[]⟩
noncomputable def k610_5 (p : Program) (P : Params) : Obj := ⟨.type "tuple", none, .seq #[sv "self" 969] 0, #[]⟩
noncomputable def k611_5 (p : Program) (P : Params) : Obj := ⟨.type "tuple", none, .seq #[] 0, #[]⟩
noncomputable def k612_5 (p : Program) (P : Params) : Obj := fc (st p 24 (some 17)) "Sender.ever_sent"
noncomputable def k613_5 (p : Program) (P : Params) : Obj := ⟨.type "code", none, .fields #[sv "ever_sent" 966, sv "Sender.ever_sent" 967, sv "/claim/cut.py" 968, .int 347 0, .int 1 0, .int 0 0, .int 0 0, .int 3 0, .ref 608, .bool true, .int 181 0, .ref 609, .none, .ref 610, .ref 611, .ref 612, .int 970 0, .int 347 0, sv "/claim/cut.py" 971], #[]⟩
noncomputable def k614_5 (p : Program) (P : Params) : Obj := fo (st p 24 (some 17)) "Sender.ever_sent" (.none) (sv "thinstack.sender" 748) (.ref 613)
noncomputable def k615_5 (p : Program) (P : Params) : Obj := ⟨.type "tuple", none, .seq #[] 0, #[]⟩
noncomputable def k616_5 (p : Program) (P : Params) : Obj := ⟨.none, none, .fields #[], #[]⟩
noncomputable def k617_5 (p : Program) (P : Params) : Obj := ⟨.type "tuple", none, .seq #[sv "self" 976] 0, #[]⟩
noncomputable def k618_5 (p : Program) (P : Params) : Obj := ⟨.type "tuple", none, .seq #[] 0, #[]⟩
noncomputable def k619_5 (p : Program) (P : Params) : Obj := fc (st p 24 (some 18)) "Sender.first_piece"
noncomputable def k620_5 (p : Program) (P : Params) : Obj := ⟨.type "code", none, .fields #[sv "first_piece" 973, sv "Sender.first_piece" 974, sv "/claim/cut.py" 975, .int 350 0, .int 1 0, .int 0 0, .int 0 0, .int 3 0, .ref 615, .bool true, .int 181 0, .ref 616, .none, .ref 617, .ref 618, .ref 619, .int 977 0, .int 350 0, sv "/claim/cut.py" 978], #[]⟩
noncomputable def k621_5 (p : Program) (P : Params) : Obj := fo (st p 24 (some 18)) "Sender.first_piece" (.none) (sv "thinstack.sender" 748) (.ref 620)
noncomputable def k622_5 (p : Program) (P : Params) : Obj := ⟨.type "tuple", none, .seq #[] 0, #[]⟩
noncomputable def k623_5 (p : Program) (P : Params) : Obj := ⟨.none, none, .fields #[], #[]⟩
noncomputable def k624_5 (p : Program) (P : Params) : Obj := ⟨.type "tuple", none, .seq #[sv "self" 983, sv "many" 984] 0, #[]⟩
noncomputable def k625_5 (p : Program) (P : Params) : Obj := ⟨.type "tuple", none, .seq #[] 0, #[]⟩
noncomputable def k626_5 (p : Program) (P : Params) : Obj := fc (st p 24 (some 19)) "Sender.reach"
noncomputable def k627_5 (p : Program) (P : Params) : Obj := ⟨.type "code", none, .fields #[sv "reach" 980, sv "Sender.reach" 981, sv "/claim/cut.py" 982, .int 353 0, .int 2 0, .int 0 0, .int 0 0, .int 3 0, .ref 622, .bool true, .int 181 0, .ref 623, .none, .ref 624, .ref 625, .ref 626, .int 985 0, .int 353 0, sv "/claim/cut.py" 986], #[]⟩
noncomputable def k628_5 (p : Program) (P : Params) : Obj := fo (st p 24 (some 19)) "Sender.reach" (.none) (sv "thinstack.sender" 748) (.ref 627)
noncomputable def k629_5 (p : Program) (P : Params) : Obj := ⟨.type "tuple", none, .seq #[] 0, #[]⟩
noncomputable def k630_5 (p : Program) (P : Params) : Obj := ⟨.none, none, .fields #[], #[]⟩
noncomputable def k631_5 (p : Program) (P : Params) : Obj := ⟨.type "tuple", none, .seq #[sv "self" 991, sv "seq" 992] 0, #[]⟩
noncomputable def k632_5 (p : Program) (P : Params) : Obj := ⟨.type "tuple", none, .seq #[] 0, #[]⟩
noncomputable def k633_5 (p : Program) (P : Params) : Obj := fc (st p 24 (some 20)) "Sender.back_to"
noncomputable def k634_5 (p : Program) (P : Params) : Obj := ⟨.type "code", none, .fields #[sv "back_to" 988, sv "Sender.back_to" 989, sv "/claim/cut.py" 990, .int 356 0, .int 2 0, .int 0 0, .int 0 0, .int 3 0, .ref 629, .bool true, .int 181 0, .ref 630, .none, .ref 631, .ref 632, .ref 633, .int 993 0, .int 356 0, sv "/claim/cut.py" 994], #[]⟩
noncomputable def k635_5 (p : Program) (P : Params) : Obj := fo (st p 24 (some 20)) "Sender.back_to" (.none) (sv "thinstack.sender" 748) (.ref 634)
noncomputable def k636_5 (p : Program) (P : Params) : Obj := ⟨.type "tuple", none, .seq #[] 0, #[]⟩
noncomputable def k637_5 (p : Program) (P : Params) : Obj := ⟨.none, none, .fields #[], #[]⟩
noncomputable def k638_5 (p : Program) (P : Params) : Obj := ⟨.type "tuple", none, .seq #[sv "self" 999] 0, #[]⟩
noncomputable def k639_5 (p : Program) (P : Params) : Obj := ⟨.type "tuple", none, .seq #[] 0, #[]⟩
noncomputable def k640_5 (p : Program) (P : Params) : Obj := fc (st p 24 (some 21)) "Sender.is_idle_with_more"
noncomputable def k641_5 (p : Program) (P : Params) : Obj := ⟨.type "code", none, .fields #[sv "is_idle_with_more" 996, sv "Sender.is_idle_with_more" 997, sv "/claim/cut.py" 998, .int 359 0, .int 1 0, .int 0 0, .int 0 0, .int 3 0, .ref 636, .bool true, .int 181 0, .ref 637, .none, .ref 638, .ref 639, .ref 640, .int 1000 0, .int 359 0, sv "/claim/cut.py" 1001], #[]⟩
noncomputable def k642_5 (p : Program) (P : Params) : Obj := fo (st p 24 (some 21)) "Sender.is_idle_with_more" (.none) (sv "thinstack.sender" 748) (.ref 641)
noncomputable def k643_5 (p : Program) (P : Params) : Obj := ⟨.type "tuple", none, .seq #[] 0, #[]⟩
noncomputable def k644_5 (p : Program) (P : Params) : Obj := ⟨.none, none, .fields #[], #[]⟩
noncomputable def k645_5 (p : Program) (P : Params) : Obj := ⟨.type "tuple", none, .seq #[sv "self" 1006, sv "many" 1007] 0, #[]⟩
noncomputable def k646_5 (p : Program) (P : Params) : Obj := ⟨.type "tuple", none, .seq #[] 0, #[]⟩
noncomputable def k647_5 (p : Program) (P : Params) : Obj := fc (st p 24 (some 22)) "Sender.needs_probe"
noncomputable def k648_5 (p : Program) (P : Params) : Obj := ⟨.type "code", none, .fields #[sv "needs_probe" 1003, sv "Sender.needs_probe" 1004, sv "/claim/cut.py" 1005, .int 364 0, .int 1 0, .int 0 0, .int 0 0, .int 3 0, .ref 643, .bool true, .int 181 0, .ref 644, .none, .ref 645, .ref 646, .ref 647, .int 1008 0, .int 364 0, sv "/claim/cut.py" 1009], #[]⟩
noncomputable def k649_5 (p : Program) (P : Params) : Obj := fo (st p 24 (some 22)) "Sender.needs_probe" (.none) (sv "thinstack.sender" 748) (.ref 648)
noncomputable def k650_5 (p : Program) (P : Params) : Obj := ⟨.type "tuple", none, .seq #[] 0, #[]⟩
noncomputable def k651_5 (p : Program) (P : Params) : Obj := ⟨.none, none, .fields #[], #[]⟩
noncomputable def k652_5 (p : Program) (P : Params) : Obj := ⟨.type "tuple", none, .seq #[sv "self" 1014] 0, #[]⟩
noncomputable def k653_5 (p : Program) (P : Params) : Obj := ⟨.type "tuple", none, .seq #[] 0, #[]⟩
noncomputable def k654_5 (p : Program) (P : Params) : Obj := fc (st p 24 (some 23)) "Sender.probe"
noncomputable def k655_5 (p : Program) (P : Params) : Obj := ⟨.type "code", none, .fields #[sv "probe" 1011, sv "Sender.probe" 1012, sv "/claim/cut.py" 1013, .int 372 0, .int 1 0, .int 0 0, .int 0 0, .int 3 0, .ref 650, .bool true, .int 181 0, .ref 651, .none, .ref 652, .ref 653, .ref 654, .int 1015 0, .int 372 0, sv "/claim/cut.py" 1016], #[]⟩
noncomputable def k656_5 (p : Program) (P : Params) : Obj := fo (st p 24 (some 23)) "Sender.probe" (.none) (sv "thinstack.sender" 748) (.ref 655)
noncomputable def k657_5 (p : Program) (P : Params) : Obj := ⟨.type "tuple", none, .seq #[] 0, #[]⟩
noncomputable def k658_5 (p : Program) (P : Params) : Obj := ⟨.none, none, .fields #[], #[]⟩
noncomputable def k659_5 (p : Program) (P : Params) : Obj := ⟨.type "tuple", none, .seq #[sv "self" 1021, sv "ack" 1022, sv "many" 1023, sv "ahead" 1024, sv "is_syn" 1025, sv "octets" 1026] 0, #[]⟩
noncomputable def k660_5 (p : Program) (P : Params) : Obj := ⟨.type "tuple", none, .seq #[] 0, #[]⟩
noncomputable def k661_5 (p : Program) (P : Params) : Obj := fc (st p 24 (some 24)) "Sender.acked"
noncomputable def k662_5 (p : Program) (P : Params) : Obj := ⟨.type "code", none, .fields #[sv "acked" 1018, sv "Sender.acked" 1019, sv "/claim/cut.py" 1020, .int 383 0, .int 2 0, .int 0 0, .int 0 0, .int 3 0, .ref 657, .bool true, .int 181 0, .ref 658, .none, .ref 659, .ref 660, .ref 661, .int 1027 0, .int 383 0, sv "/claim/cut.py" 1028], #[]⟩
noncomputable def k663_5 (p : Program) (P : Params) : Obj := fo (st p 24 (some 24)) "Sender.acked" (.none) (sv "thinstack.sender" 748) (.ref 662)
noncomputable def k664_5 (p : Program) (P : Params) : Obj := ⟨.type "tuple", none, .seq #[sv "fin_asked" 1030, sv "fin_sent" 1031, sv "greatest" 1032, sv "iss" 1033, sv "mss" 1034, sv "next" 1035, sv "peer" 1036, sv "queue" 1037, sv "ring" 1038, sv "syn_pending" 1039, sv "una" 1040] 0, #[]⟩
noncomputable def k665_5 (p : Program) (P : Params) : Obj := ⟨.type "dict", none, .dict (List.toArray [en P "__module__" 818 (sv "thinstack.sender" 748), en P "__firstlineno__" 822 (.int 253 821), en P "__init__" 833 (.ref 493), en P "window" 841 (.ref 501), en P "take_window" 851 (.ref 508), en P "put" 859 (.ref 515), en P "ask_fin" 866 (.ref 522), en P "flight" 873 (.ref 529), en P "usable" 881 (.ref 536), en P "data_sent" 888 (.ref 543), en P "unsent" 895 (.ref 550), en P "is_fin_due" 903 (.ref 557), en P "is_fin_acked" 910 (.ref 564), en P "is_all_acked" 917 (.ref 571), en P "go_on" 925 (.ref 578), en P "start" 932 (.ref 585), en P "may_go" 941 (.ref 592), en P "pieces" 952 (.ref 600), en P "piece_of" 965 (.ref 607), en P "ever_sent" 972 (.ref 614), en P "first_piece" 979 (.ref 621), en P "reach" 987 (.ref 628), en P "back_to" 995 (.ref 635), en P "is_idle_with_more" 1002 (.ref 642), en P "needs_probe" 1010 (.ref 649), en P "probe" 1017 (.ref 656), en P "acked" 1029 (.ref 663), en P "__static_attributes__" 1041 (.ref 664), en P "__dict__" 1043 (.ref 667), en P "__weakref__" 1045 (.ref 668), en P "__doc__" 1046 (.none)]) 4, #[]⟩
noncomputable def k666_5 (p : Program) (P : Params) : Obj := ⟨.type "type", none, .cls { name := so "Sender", bases := [.type "object"], mro := [.ref 666, .type "object"], ns := 665, qualname := so "Sender", hasDict := true, slotNames := [], subclasses := [], abstract := false, collection := none, hasDel := false }, #[none, none, some (sv "Sender" 811), some (sv "Sender" 819), some (.builtin "object.__new__"), some (.bool true)]⟩
noncomputable def k667_5 (p : Program) (P : Params) : Obj := ⟨.type "getset_descriptor", none, .fields #[sv "__dict__" 1042, .ref 666, .builtin "function.__dict__", .builtin "function.__dict__#set"], #[]⟩
noncomputable def k668_5 (p : Program) (P : Params) : Obj := ⟨.type "getset_descriptor", none, .fields #[sv "__weakref__" 1044, .ref 666, .builtin "ExceptionGroup.__weakref__", .none], #[]⟩
noncomputable def k669_5 (p : Program) (P : Params) : Obj := ⟨.type "super", none, .fields #[.ref 666, .ref 666, .ref 666], #[]⟩
noncomputable def k670_5 (p : Program) (P : Params) : Obj := ⟨.type "builtin_function_or_method", none, .fields #[.builtin "object.__init_subclass__", .ref 666], #[]⟩
noncomputable def T5 (p : Program) (P : Params) : BT := (.node (k0_0 p P) (.node (k1_1 p P) (.node (k3_5 p P) (.node (k7_1 p P) (.node (k15_1 p P) (.node (k31_1 p P) (.node (k63_1 p P) (.node (k127_2 p P) (.node (k255_3 p P) (.node (k511_5 p P) .nil .nil) .nil) (.node (k383_4 p P) (.node (k639_5 p P) .nil .nil) .nil)) (.node (k191_2 p P) (.node (k319_3 p P) (.node (k575_5 p P) .nil .nil) .nil) (.node (k447_4 p P) .nil .nil))) (.node (k95_1 p P) (.node (k159_2 p P) (.node (k287_3 p P) (.node (k543_5 p P) .nil .nil) .nil) (.node (k415_4 p P) .nil .nil)) (.node (k223_2 p P) (.node (k351_3 p P) (.node (k607_5 p P) .nil .nil) .nil) (.node (k479_4 p P) .nil .nil)))) (.node (k47_1 p P) (.node (k79_1 p P) (.node (k143_2 p P) (.node (k271_3 p P) (.node (k527_5 p P) .nil .nil) .nil) (.node (k399_4 p P) (.node (k655_5 p P) .nil .nil) .nil)) (.node (k207_2 p P) (.node (k335_3 p P) (.node (k591_5 p P) .nil .nil) .nil) (.node (k463_4 p P) .nil .nil))) (.node (k111_2 p P) (.node (k175_2 p P) (.node (k303_3 p P) (.node (k559_5 p P) .nil .nil) .nil) (.node (k431_4 p P) .nil .nil)) (.node (k239_2 p P) (.node (k367_3 p P) (.node (k623_5 p P) .nil .nil) .nil) (.node (k495_5 p P) .nil .nil))))) (.node (k23_1 p P) (.node (k39_1 p P) (.node (k71_1 p P) (.node (k135_2 p P) (.node (k263_3 p P) (.node (k519_5 p P) .nil .nil) .nil) (.node (k391_4 p P) (.node (k647_5 p P) .nil .nil) .nil)) (.node (k199_2 p P) (.node (k327_3 p P) (.node (k583_5 p P) .nil .nil) .nil) (.node (k455_4 p P) .nil .nil))) (.node (k103_2 p P) (.node (k167_2 p P) (.node (k295_3 p P) (.node (k551_5 p P) .nil .nil) .nil) (.node (k423_4 p P) .nil .nil)) (.node (k231_2 p P) (.node (k359_3 p P) (.node (k615_5 p P) .nil .nil) .nil) (.node (k487_5 p P) .nil .nil)))) (.node (k55_1 p P) (.node (k87_1 p P) (.node (k151_2 p P) (.node (k279_3 p P) (.node (k535_5 p P) .nil .nil) .nil) (.node (k407_4 p P) (.node (k663_5 p P) .nil .nil) .nil)) (.node (k215_2 p P) (.node (k343_3 p P) (.node (k599_5 p P) .nil .nil) .nil) (.node (k471_4 p P) .nil .nil))) (.node (k119_2 p P) (.node (k183_2 p P) (.node (k311_3 p P) (.node (k567_5 p P) .nil .nil) .nil) (.node (k439_4 p P) .nil .nil)) (.node (k247_2 p P) (.node (k375_3 p P) (.node (k631_5 p P) .nil .nil) .nil) (.node (k503_5 p P) .nil .nil)))))) (.node (k11_0 p P) (.node (k19_1 p P) (.node (k35_1 p P) (.node (k67_1 p P) (.node (k131_2 p P) (.node (k259_3 p P) (.node (k515_5 p P) .nil .nil) .nil) (.node (k387_4 p P) (.node (k643_5 p P) .nil .nil) .nil)) (.node (k195_2 p P) (.node (k323_3 p P) (.node (k579_5 p P) .nil .nil) .nil) (.node (k451_4 p P) .nil .nil))) (.node (k99_1 p P) (.node (k163_2 p P) (.node (k291_3 p P) (.node (k547_5 p P) .nil .nil) .nil) (.node (k419_4 p P) .nil .nil)) (.node (k227_2 p P) (.node (k355_3 p P) (.node (k611_5 p P) .nil .nil) .nil) (.node (k483_5 p P) .nil .nil)))) (.node (k51_1 p P) (.node (k83_1 p P) (.node (k147_2 p P) (.node (k275_3 p P) (.node (k531_5 p P) .nil .nil) .nil) (.node (k403_4 p P) (.node (k659_5 p P) .nil .nil) .nil)) (.node (k211_2 p P) (.node (k339_3 p P) (.node (k595_5 p P) .nil .nil) .nil) (.node (k467_4 p P) .nil .nil))) (.node (k115_2 p P) (.node (k179_2 p P) (.node (k307_3 p P) (.node (k563_5 p P) .nil .nil) .nil) (.node (k435_4 p P) .nil .nil)) (.node (k243_2 p P) (.node (k371_3 p P) (.node (k627_5 p P) .nil .nil) .nil) (.node (k499_5 p P) .nil .nil))))) (.node (k27_1 p P) (.node (k43_1 p P) (.node (k75_1 p P) (.node (k139_2 p P) (.node (k267_3 p P) (.node (k523_5 p P) .nil .nil) .nil) (.node (k395_4 p P) (.node (k651_5 p P) .nil .nil) .nil)) (.node (k203_2 p P) (.node (k331_3 p P) (.node (k587_5 p P) .nil .nil) .nil) (.node (k459_4 p P) .nil .nil))) (.node (k107_2 p P) (.node (k171_2 p P) (.node (k299_3 p P) (.node (k555_5 p P) .nil .nil) .nil) (.node (k427_4 p P) .nil .nil)) (.node (k235_2 p P) (.node (k363_3 p P) (.node (k619_5 p P) .nil .nil) .nil) (.node (k491_5 p P) .nil .nil)))) (.node (k59_1 p P) (.node (k91_1 p P) (.node (k155_2 p P) (.node (k283_3 p P) (.node (k539_5 p P) .nil .nil) .nil) (.node (k411_4 p P) (.node (k667_5 p P) .nil .nil) .nil)) (.node (k219_2 p P) (.node (k347_3 p P) (.node (k603_5 p P) .nil .nil) .nil) (.node (k475_4 p P) .nil .nil))) (.node (k123_2 p P) (.node (k187_2 p P) (.node (k315_3 p P) (.node (k571_5 p P) .nil .nil) .nil) (.node (k443_4 p P) .nil .nil)) (.node (k251_3 p P) (.node (k379_3 p P) (.node (k635_5 p P) .nil .nil) .nil) (.node (k507_5 p P) .nil .nil))))))) (.node (k5_1 p P) (.node (k9_1 p P) (.node (k17_1 p P) (.node (k33_1 p P) (.node (k65_1 p P) (.node (k129_2 p P) (.node (k257_3 p P) (.node (k513_5 p P) .nil .nil) .nil) (.node (k385_4 p P) (.node (k641_5 p P) .nil .nil) .nil)) (.node (k193_2 p P) (.node (k321_3 p P) (.node (k577_5 p P) .nil .nil) .nil) (.node (k449_4 p P) .nil .nil))) (.node (k97_1 p P) (.node (k161_2 p P) (.node (k289_3 p P) (.node (k545_5 p P) .nil .nil) .nil) (.node (k417_4 p P) .nil .nil)) (.node (k225_2 p P) (.node (k353_3 p P) (.node (k609_5 p P) .nil .nil) .nil) (.node (k481_5 p P) .nil .nil)))) (.node (k49_1 p P) (.node (k81_1 p P) (.node (k145_2 p P) (.node (k273_3 p P) (.node (k529_5 p P) .nil .nil) .nil) (.node (k401_4 p P) (.node (k657_5 p P) .nil .nil) .nil)) (.node (k209_2 p P) (.node (k337_3 p P) (.node (k593_5 p P) .nil .nil) .nil) (.node (k465_4 p P) .nil .nil))) (.node (k113_2 p P) (.node (k177_2 p P) (.node (k305_3 p P) (.node (k561_5 p P) .nil .nil) .nil) (.node (k433_4 p P) .nil .nil)) (.node (k241_2 p P) (.node (k369_3 p P) (.node (k625_5 p P) .nil .nil) .nil) (.node (k497_5 p P) .nil .nil))))) (.node (k25_1 p P) (.node (k41_1 p P) (.node (k73_1 p P) (.node (k137_2 p P) (.node (k265_3 p P) (.node (k521_5 p P) .nil .nil) .nil) (.node (k393_4 p P) (.node (k649_5 p P) .nil .nil) .nil)) (.node (k201_2 p P) (.node (k329_3 p P) (.node (k585_5 p P) .nil .nil) .nil) (.node (k457_4 p P) .nil .nil))) (.node (k105_2 p P) (.node (k169_2 p P) (.node (k297_3 p P) (.node (k553_5 p P) .nil .nil) .nil) (.node (k425_4 p P) .nil .nil)) (.node (k233_2 p P) (.node (k361_3 p P) (.node (k617_5 p P) .nil .nil) .nil) (.node (k489_5 p P) .nil .nil)))) (.node (k57_1 p P) (.node (k89_1 p P) (.node (k153_2 p P) (.node (k281_3 p P) (.node (k537_5 p P) .nil .nil) .nil) (.node (k409_4 p P) (.node (k665_5 p P) .nil .nil) .nil)) (.node (k217_2 p P) (.node (k345_3 p P) (.node (k601_5 p P) .nil .nil) .nil) (.node (k473_4 p P) .nil .nil))) (.node (k121_2 p P) (.node (k185_2 p P) (.node (k313_3 p P) (.node (k569_5 p P) .nil .nil) .nil) (.node (k441_4 p P) .nil .nil)) (.node (k249_3 p P) (.node (k377_3 p P) (.node (k633_5 p P) .nil .nil) .nil) (.node (k505_5 p P) .nil .nil)))))) (.node (k13_0 p P) (.node (k21_1 p P) (.node (k37_1 p P) (.node (k69_1 p P) (.node (k133_2 p P) (.node (k261_3 p P) (.node (k517_5 p P) .nil .nil) .nil) (.node (k389_4 p P) (.node (k645_5 p P) .nil .nil) .nil)) (.node (k197_2 p P) (.node (k325_3 p P) (.node (k581_5 p P) .nil .nil) .nil) (.node (k453_4 p P) .nil .nil))) (.node (k101_2 p P) (.node (k165_2 p P) (.node (k293_3 p P) (.node (k549_5 p P) .nil .nil) .nil) (.node (k421_4 p P) .nil .nil)) (.node (k229_2 p P) (.node (k357_3 p P) (.node (k613_5 p P) .nil .nil) .nil) (.node (k485_5 p P) .nil .nil)))) (.node (k53_1 p P) (.node (k85_1 p P) (.node (k149_2 p P) (.node (k277_3 p P) (.node (k533_5 p P) .nil .nil) .nil) (.node (k405_4 p P) (.node (k661_5 p P) .nil .nil) .nil)) (.node (k213_2 p P) (.node (k341_3 p P) (.node (k597_5 p P) .nil .nil) .nil) (.node (k469_4 p P) .nil .nil))) (.node (k117_2 p P) (.node (k181_2 p P) (.node (k309_3 p P) (.node (k565_5 p P) .nil .nil) .nil) (.node (k437_4 p P) .nil .nil)) (.node (k245_2 p P) (.node (k373_3 p P) (.node (k629_5 p P) .nil .nil) .nil) (.node (k501_5 p P) .nil .nil))))) (.node (k29_1 p P) (.node (k45_1 p P) (.node (k77_1 p P) (.node (k141_2 p P) (.node (k269_3 p P) (.node (k525_5 p P) .nil .nil) .nil) (.node (k397_4 p P) (.node (k653_5 p P) .nil .nil) .nil)) (.node (k205_2 p P) (.node (k333_3 p P) (.node (k589_5 p P) .nil .nil) .nil) (.node (k461_4 p P) .nil .nil))) (.node (k109_2 p P) (.node (k173_2 p P) (.node (k301_3 p P) (.node (k557_5 p P) .nil .nil) .nil) (.node (k429_4 p P) .nil .nil)) (.node (k237_2 p P) (.node (k365_3 p P) (.node (k621_5 p P) .nil .nil) .nil) (.node (k493_5 p P) .nil .nil)))) (.node (k61_1 p P) (.node (k93_1 p P) (.node (k157_2 p P) (.node (k285_3 p P) (.node (k541_5 p P) .nil .nil) .nil) (.node (k413_4 p P) (.node (k669_5 p P) .nil .nil) .nil)) (.node (k221_2 p P) (.node (k349_3 p P) (.node (k605_5 p P) .nil .nil) .nil) (.node (k477_4 p P) .nil .nil))) (.node (k125_2 p P) (.node (k189_2 p P) (.node (k317_3 p P) (.node (k573_5 p P) .nil .nil) .nil) (.node (k445_4 p P) .nil .nil)) (.node (k253_3 p P) (.node (k381_3 p P) (.node (k637_5 p P) .nil .nil) .nil) (.node (k509_5 p P) .nil .nil)))))))) (.node (k2_1 p P) (.node (k4_1 p P) (.node (k8_1 p P) (.node (k16_1 p P) (.node (k32_1 p P) (.node (k64_1 p P) (.node (k128_2 p P) (.node (k256_3 p P) (.node (k512_5 p P) .nil .nil) .nil) (.node (k384_4 p P) (.node (k640_5 p P) .nil .nil) .nil)) (.node (k192_2 p P) (.node (k320_3 p P) (.node (k576_5 p P) .nil .nil) .nil) (.node (k448_4 p P) .nil .nil))) (.node (k96_1 p P) (.node (k160_2 p P) (.node (k288_3 p P) (.node (k544_5 p P) .nil .nil) .nil) (.node (k416_4 p P) .nil .nil)) (.node (k224_2 p P) (.node (k352_3 p P) (.node (k608_5 p P) .nil .nil) .nil) (.node (k480_5 p P) .nil .nil)))) (.node (k48_1 p P) (.node (k80_1 p P) (.node (k144_2 p P) (.node (k272_3 p P) (.node (k528_5 p P) .nil .nil) .nil) (.node (k400_4 p P) (.node (k656_5 p P) .nil .nil) .nil)) (.node (k208_2 p P) (.node (k336_3 p P) (.node (k592_5 p P) .nil .nil) .nil) (.node (k464_4 p P) .nil .nil))) (.node (k112_2 p P) (.node (k176_2 p P) (.node (k304_3 p P) (.node (k560_5 p P) .nil .nil) .nil) (.node (k432_4 p P) .nil .nil)) (.node (k240_2 p P) (.node (k368_3 p P) (.node (k624_5 p P) .nil .nil) .nil) (.node (k496_5 p P) .nil .nil))))) (.node (k24_1 p P) (.node (k40_1 p P) (.node (k72_1 p P) (.node (k136_2 p P) (.node (k264_3 p P) (.node (k520_5 p P) .nil .nil) .nil) (.node (k392_4 p P) (.node (k648_5 p P) .nil .nil) .nil)) (.node (k200_2 p P) (.node (k328_3 p P) (.node (k584_5 p P) .nil .nil) .nil) (.node (k456_4 p P) .nil .nil))) (.node (k104_2 p P) (.node (k168_2 p P) (.node (k296_3 p P) (.node (k552_5 p P) .nil .nil) .nil) (.node (k424_4 p P) .nil .nil)) (.node (k232_2 p P) (.node (k360_3 p P) (.node (k616_5 p P) .nil .nil) .nil) (.node (k488_5 p P) .nil .nil)))) (.node (k56_1 p P) (.node (k88_1 p P) (.node (k152_2 p P) (.node (k280_3 p P) (.node (k536_5 p P) .nil .nil) .nil) (.node (k408_4 p P) (.node (k664_5 p P) .nil .nil) .nil)) (.node (k216_2 p P) (.node (k344_3 p P) (.node (k600_5 p P) .nil .nil) .nil) (.node (k472_4 p P) .nil .nil))) (.node (k120_2 p P) (.node (k184_2 p P) (.node (k312_3 p P) (.node (k568_5 p P) .nil .nil) .nil) (.node (k440_4 p P) .nil .nil)) (.node (k248_2 p P) (.node (k376_3 p P) (.node (k632_5 p P) .nil .nil) .nil) (.node (k504_5 p P) .nil .nil)))))) (.node (k12_5 p P) (.node (k20_1 p P) (.node (k36_1 p P) (.node (k68_1 p P) (.node (k132_2 p P) (.node (k260_3 p P) (.node (k516_5 p P) .nil .nil) .nil) (.node (k388_4 p P) (.node (k644_5 p P) .nil .nil) .nil)) (.node (k196_2 p P) (.node (k324_3 p P) (.node (k580_5 p P) .nil .nil) .nil) (.node (k452_4 p P) .nil .nil))) (.node (k100_1 p P) (.node (k164_2 p P) (.node (k292_3 p P) (.node (k548_5 p P) .nil .nil) .nil) (.node (k420_4 p P) .nil .nil)) (.node (k228_2 p P) (.node (k356_3 p P) (.node (k612_5 p P) .nil .nil) .nil) (.node (k484_5 p P) .nil .nil)))) (.node (k52_1 p P) (.node (k84_1 p P) (.node (k148_2 p P) (.node (k276_3 p P) (.node (k532_5 p P) .nil .nil) .nil) (.node (k404_4 p P) (.node (k660_5 p P) .nil .nil) .nil)) (.node (k212_2 p P) (.node (k340_3 p P) (.node (k596_5 p P) .nil .nil) .nil) (.node (k468_4 p P) .nil .nil))) (.node (k116_2 p P) (.node (k180_2 p P) (.node (k308_3 p P) (.node (k564_5 p P) .nil .nil) .nil) (.node (k436_4 p P) .nil .nil)) (.node (k244_2 p P) (.node (k372_3 p P) (.node (k628_5 p P) .nil .nil) .nil) (.node (k500_5 p P) .nil .nil))))) (.node (k28_1 p P) (.node (k44_1 p P) (.node (k76_1 p P) (.node (k140_2 p P) (.node (k268_3 p P) (.node (k524_5 p P) .nil .nil) .nil) (.node (k396_4 p P) (.node (k652_5 p P) .nil .nil) .nil)) (.node (k204_2 p P) (.node (k332_3 p P) (.node (k588_5 p P) .nil .nil) .nil) (.node (k460_4 p P) .nil .nil))) (.node (k108_2 p P) (.node (k172_2 p P) (.node (k300_3 p P) (.node (k556_5 p P) .nil .nil) .nil) (.node (k428_4 p P) .nil .nil)) (.node (k236_2 p P) (.node (k364_3 p P) (.node (k620_5 p P) .nil .nil) .nil) (.node (k492_5 p P) .nil .nil)))) (.node (k60_1 p P) (.node (k92_1 p P) (.node (k156_2 p P) (.node (k284_3 p P) (.node (k540_5 p P) .nil .nil) .nil) (.node (k412_4 p P) (.node (k668_5 p P) .nil .nil) .nil)) (.node (k220_2 p P) (.node (k348_3 p P) (.node (k604_5 p P) .nil .nil) .nil) (.node (k476_4 p P) .nil .nil))) (.node (k124_2 p P) (.node (k188_2 p P) (.node (k316_3 p P) (.node (k572_5 p P) .nil .nil) .nil) (.node (k444_4 p P) .nil .nil)) (.node (k252_3 p P) (.node (k380_3 p P) (.node (k636_5 p P) .nil .nil) .nil) (.node (k508_5 p P) .nil .nil))))))) (.node (k6_1 p P) (.node (k10_1 p P) (.node (k18_1 p P) (.node (k34_1 p P) (.node (k66_1 p P) (.node (k130_2 p P) (.node (k258_3 p P) (.node (k514_5 p P) .nil .nil) .nil) (.node (k386_4 p P) (.node (k642_5 p P) .nil .nil) .nil)) (.node (k194_2 p P) (.node (k322_3 p P) (.node (k578_5 p P) .nil .nil) .nil) (.node (k450_4 p P) .nil .nil))) (.node (k98_1 p P) (.node (k162_2 p P) (.node (k290_3 p P) (.node (k546_5 p P) .nil .nil) .nil) (.node (k418_4 p P) .nil .nil)) (.node (k226_2 p P) (.node (k354_3 p P) (.node (k610_5 p P) .nil .nil) .nil) (.node (k482_5 p P) .nil .nil)))) (.node (k50_1 p P) (.node (k82_1 p P) (.node (k146_2 p P) (.node (k274_3 p P) (.node (k530_5 p P) .nil .nil) .nil) (.node (k402_4 p P) (.node (k658_5 p P) .nil .nil) .nil)) (.node (k210_2 p P) (.node (k338_3 p P) (.node (k594_5 p P) .nil .nil) .nil) (.node (k466_4 p P) .nil .nil))) (.node (k114_2 p P) (.node (k178_2 p P) (.node (k306_3 p P) (.node (k562_5 p P) .nil .nil) .nil) (.node (k434_4 p P) .nil .nil)) (.node (k242_2 p P) (.node (k370_3 p P) (.node (k626_5 p P) .nil .nil) .nil) (.node (k498_5 p P) .nil .nil))))) (.node (k26_1 p P) (.node (k42_1 p P) (.node (k74_1 p P) (.node (k138_2 p P) (.node (k266_3 p P) (.node (k522_5 p P) .nil .nil) .nil) (.node (k394_4 p P) (.node (k650_5 p P) .nil .nil) .nil)) (.node (k202_2 p P) (.node (k330_3 p P) (.node (k586_5 p P) .nil .nil) .nil) (.node (k458_4 p P) .nil .nil))) (.node (k106_2 p P) (.node (k170_2 p P) (.node (k298_3 p P) (.node (k554_5 p P) .nil .nil) .nil) (.node (k426_4 p P) .nil .nil)) (.node (k234_2 p P) (.node (k362_3 p P) (.node (k618_5 p P) .nil .nil) .nil) (.node (k490_5 p P) .nil .nil)))) (.node (k58_1 p P) (.node (k90_1 p P) (.node (k154_2 p P) (.node (k282_3 p P) (.node (k538_5 p P) .nil .nil) .nil) (.node (k410_4 p P) (.node (k666_5 p P) .nil .nil) .nil)) (.node (k218_2 p P) (.node (k346_3 p P) (.node (k602_5 p P) .nil .nil) .nil) (.node (k474_4 p P) .nil .nil))) (.node (k122_2 p P) (.node (k186_2 p P) (.node (k314_3 p P) (.node (k570_5 p P) .nil .nil) .nil) (.node (k442_4 p P) .nil .nil)) (.node (k250_3 p P) (.node (k378_3 p P) (.node (k634_5 p P) .nil .nil) .nil) (.node (k506_5 p P) .nil .nil)))))) (.node (k14_0 p P) (.node (k22_1 p P) (.node (k38_1 p P) (.node (k70_1 p P) (.node (k134_2 p P) (.node (k262_3 p P) (.node (k518_5 p P) .nil .nil) .nil) (.node (k390_4 p P) (.node (k646_5 p P) .nil .nil) .nil)) (.node (k198_2 p P) (.node (k326_3 p P) (.node (k582_5 p P) .nil .nil) .nil) (.node (k454_4 p P) .nil .nil))) (.node (k102_2 p P) (.node (k166_2 p P) (.node (k294_3 p P) (.node (k550_5 p P) .nil .nil) .nil) (.node (k422_4 p P) .nil .nil)) (.node (k230_2 p P) (.node (k358_3 p P) (.node (k614_5 p P) .nil .nil) .nil) (.node (k486_5 p P) .nil .nil)))) (.node (k54_1 p P) (.node (k86_1 p P) (.node (k150_2 p P) (.node (k278_3 p P) (.node (k534_5 p P) .nil .nil) .nil) (.node (k406_4 p P) (.node (k662_5 p P) .nil .nil) .nil)) (.node (k214_2 p P) (.node (k342_3 p P) (.node (k598_5 p P) .nil .nil) .nil) (.node (k470_4 p P) .nil .nil))) (.node (k118_2 p P) (.node (k182_2 p P) (.node (k310_3 p P) (.node (k566_5 p P) .nil .nil) .nil) (.node (k438_4 p P) .nil .nil)) (.node (k246_2 p P) (.node (k374_3 p P) (.node (k630_5 p P) .nil .nil) .nil) (.node (k502_5 p P) .nil .nil))))) (.node (k30_1 p P) (.node (k46_1 p P) (.node (k78_1 p P) (.node (k142_2 p P) (.node (k270_3 p P) (.node (k526_5 p P) .nil .nil) .nil) (.node (k398_4 p P) (.node (k654_5 p P) .nil .nil) .nil)) (.node (k206_2 p P) (.node (k334_3 p P) (.node (k590_5 p P) .nil .nil) .nil) (.node (k462_4 p P) .nil .nil))) (.node (k110_2 p P) (.node (k174_2 p P) (.node (k302_3 p P) (.node (k558_5 p P) .nil .nil) .nil) (.node (k430_4 p P) .nil .nil)) (.node (k238_2 p P) (.node (k366_3 p P) (.node (k622_5 p P) .nil .nil) .nil) (.node (k494_5 p P) .nil .nil)))) (.node (k62_1 p P) (.node (k94_1 p P) (.node (k158_2 p P) (.node (k286_3 p P) (.node (k542_5 p P) .nil .nil) .nil) (.node (k414_4 p P) (.node (k670_5 p P) .nil .nil) .nil)) (.node (k222_2 p P) (.node (k350_3 p P) (.node (k606_5 p P) .nil .nil) .nil) (.node (k478_4 p P) .nil .nil))) (.node (k126_2 p P) (.node (k190_2 p P) (.node (k318_3 p P) (.node (k574_5 p P) .nil .nil) .nil) (.node (k446_4 p P) .nil .nil)) (.node (k254_3 p P) (.node (k382_4 p P) (.node (k638_5 p P) .nil .nil) .nil) (.node (k510_5 p P) .nil .nil)))))))))
noncomputable def S5 (p : Program) (w : World) (os : OsState) : SharedT := ⟨T5 p w.params, 671, {}, #[], {}, 1051, os⟩
def pos5 : Pos := ⟨396, 0, 396, 8⟩
noncomputable def k3_6 (p : Program) (P : Params) : Obj := ⟨.type "dict", none, .dict (List.toArray (en P "__name__" 165 (sv "thinstack.wheel" 1209) :: (ents3 P).take 50)) 51, #[]⟩
noncomputable def k12_6 (p : Program) (P : Params) : Obj := ⟨.none, none, .fields (List.toArray (vals12.take 72)), #[]⟩
noncomputable def k671_6 (p : Program) (P : Params) : Obj := ⟨.type "tuple", none, .seq #[] 0, #[]⟩
noncomputable def k672_6 (p : Program) (P : Params) : Obj := ⟨.none, none, .fields #[], #[]⟩
noncomputable def k673_6 (p : Program) (P : Params) : Obj := ⟨.type "tuple", none, .seq #[sv "n" 1054] 0, #[]⟩
noncomputable def k674_6 (p : Program) (P : Params) : Obj := ⟨.type "tuple", none, .seq #[] 0, #[]⟩
noncomputable def k675_6 (p : Program) (P : Params) : Obj := fc (st p 26 none) "put16"
noncomputable def k676_6 (p : Program) (P : Params) : Obj := ⟨.type "code", none, .fields #[sv "put16" 1051, sv "put16" 1052, sv "/claim/cut.py" 1053, .int 397 0, .int 1 0, .int 0 0, .int 0 0, .int 3 0, .ref 671, .bool true, .int 181 0, .ref 672, .none, .ref 673, .ref 674, .ref 675, .int 1055 0, .int 397 0, sv "/claim/cut.py" 1056], #[]⟩
noncomputable def k677_6 (p : Program) (P : Params) : Obj := fo (st p 26 none) "put16" (.none) (sv "thinstack.octets" 1049) (.ref 676)
noncomputable def k678_6 (p : Program) (P : Params) : Obj := ⟨.type "tuple", none, .seq #[] 0, #[]⟩
noncomputable def k679_6 (p : Program) (P : Params) : Obj := ⟨.type "builtin_function_or_method", none, .fields #[.builtin "type.__prepare__", .type "type"], #[]⟩
noncomputable def k680_6 (p : Program) (P : Params) : Obj := ⟨.type "dict", none, .dict (List.toArray [en P "__module__" 1079 (sv "thinstack.tcp_segment" 1058), en P "__qualname__" 1081 (sv "Segment" 1080), en P "__firstlineno__" 1083 (.int 406 1082), en P "__init__" 1102 (.ref 692), en P "has" 1110 (.ref 699), en P "length" 1117 (.ref 706), en P "row" 1124 (.ref 713), en P "__static_attributes__" 1134 (.ref 714)]) 8, #[]⟩
noncomputable def k681_6 (p : Program) (P : Params) : Obj := ⟨.type "tuple", none, .seq #[] 0, #[]⟩
noncomputable def k682_6 (p : Program) (P : Params) : Obj := ⟨.none, none, .fields #[.int 408 0, .int 4 0, .ref 691, .int 419 0, .int 4 0, .ref 698, .int 422 0, .int 4 0, .ref 705, .int 425 0, .int 4 0, .ref 712], #[]⟩
noncomputable def k683_6 (p : Program) (P : Params) : Obj := ⟨.type "code", none, .fields #[sv "Segment" 1074, sv "Segment" 1075, sv "/claim/cut.py" 1076, .int 406 0, .int 0 0, .int 0 0, .int 0 0, .int 0 0, .ref 681, .bool false, .int 181 0, .ref 682, .none, .none, .none, .none, .int 1077 0, .int 406 0, sv "/claim/cut.py" 1078], #[]⟩
noncomputable def k684_6 (p : Program) (P : Params) : Obj := ⟨.type "frame", none, .plain, #[some (.ref 683), some (.ref 3), some (.ref 680), none, some (sv "thinstack.tcp_segment" 1058), none, some (.ref 0)]⟩
noncomputable def k685_6 (p : Program) (P : Params) : Obj := ⟨.type "tuple", none, .seq #[.int 0 1084, .bytes #[] 1085, .bytes #[] 1086] 0, #[]⟩
noncomputable def k686_6 (p : Program) (P : Params) : Obj := ⟨.type "tuple", none, .seq #[] 0, #[]⟩
noncomputable def k687_6 (p : Program) (P : Params) : Obj := ⟨.none, none, .fields #[], #[]⟩
noncomputable def k688_6 (p : Program) (P : Params) : Obj := ⟨.type "tuple", none, .seq #[sv "self" 1090, sv "source_port" 1091, sv "target_port" 1092, sv "seq" 1093, sv "ack" 1094, sv "flags" 1095, sv "window" 1096, sv "urgent" 1097, sv "options" 1098, sv "payload" 1099] 0, #[]⟩
noncomputable def k689_6 (p : Program) (P : Params) : Obj := ⟨.type "tuple", none, .seq #[] 0, #[]⟩
noncomputable def k690_6 (p : Program) (P : Params) : Obj := fc (st p 34 (some 0)) "Segment.__init__"
noncomputable def k691_6 (p : Program) (P : Params) : Obj := ⟨.type "code", none, .fields #[sv "__init__" 1087, sv "Segment.__init__" 1088, sv "/claim/cut.py" 1089, .int 408 0, .int 10 0, .int 0 0, .int 0 0, .int 3 0, .ref 686, .bool true, .int 181 0, .ref 687, .none, .ref 688, .ref 689, .ref 690, .int 1100 0, .int 408 0, sv "/claim/cut.py" 1101], #[]⟩
noncomputable def k692_6 (p : Program) (P : Params) : Obj := fo (st p 34 (some 0)) "Segment.__init__" (.ref 685) (sv "thinstack.tcp_segment" 1058) (.ref 691)
noncomputable def k693_6 (p : Program) (P : Params) : Obj := ⟨.type "tuple", none, .seq #[] 0, #[]⟩
noncomputable def k694_6 (p : Program) (P : Params) : Obj := ⟨.none, none, .fields #[], #[]⟩
noncomputable def k695_6 (p : Program) (P : Params) : Obj := ⟨.type "tuple", none, .seq #[sv "self" 1106, sv "flag" 1107] 0, #[]⟩
noncomputable def k696_6 (p : Program) (P : Params) : Obj := ⟨.type "tuple", none, .seq #[] 0, #[]⟩
noncomputable def k697_6 (p : Program) (P : Params) : Obj := fc (st p 34 (some 1)) "Segment.has"
noncomputable def k698_6 (p : Program) (P : Params) : Obj := ⟨.type "code", none, .fields #[sv "has" 1103, sv "Segment.has" 1104, sv "/claim/cut.py" 1105, .int 419 0, .int 2 0, .int 0 0, .int 0 0, .int 3 0, .ref 693, .bool true, .int 181 0, .ref 694, .none, .ref 695, .ref 696, .ref 697, .int 1108 0, .int 419 0, sv "/claim/cut.py" 1109], #[]⟩
noncomputable def k699_6 (p : Program) (P : Params) : Obj := fo (st p 34 (some 1)) "Segment.has" (.none) (sv "thinstack.tcp_segment" 1058) (.ref 698)
noncomputable def k700_6 (p : Program) (P : Params) : Obj := ⟨.type "tuple", none, .seq #[] 0, #[]⟩
noncomputable def k701_6 (p : Program) (P : Params) : Obj := ⟨.none, none, .fields #[], #[]⟩
noncomputable def k702_6 (p : Program) (P : Params) : Obj := ⟨.type "tuple", none, .seq #[sv "self" 1114] 0, #[]⟩
noncomputable def k703_6 (p : Program) (P : Params) : Obj := ⟨.type "tuple", none, .seq #[] 0, #[]⟩
noncomputable def k704_6 (p : Program) (P : Params) : Obj := fc (st p 34 (some 2)) "Segment.length"
noncomputable def k705_6 (p : Program) (P : Params) : Obj := ⟨.type "code", none, .fields #[sv "length" 1111, sv "Segment.length" 1112, sv "/claim/cut.py" 1113, .int 422 0, .int 1 0, .int 0 0, .int 0 0, .int 3 0, .ref 700, .bool true, .int 181 0, .ref 701, .none, .ref 702, .ref 703, .ref 704, .int 1115 0, .int 422 0, sv "/claim/cut.py" 1116], #[]⟩
noncomputable def k706_6 (p : Program) (P : Params) : Obj := fo (st p 34 (some 2)) "Segment.length" (.none) (sv "thinstack.tcp_segment" 1058) (.ref 705)
noncomputable def k707_6 (p : Program) (P : Params) : Obj := ⟨.type "tuple", none, .seq #[] 0, #[]⟩
noncomputable def k708_6 (p : Program) (P : Params) : Obj := ⟨.none, none, .fields #[], #[]⟩
noncomputable def k709_6 (p : Program) (P : Params) : Obj := ⟨.type "tuple", none, .seq #[sv "self" 1121] 0, #[]⟩
noncomputable def k710_6 (p : Program) (P : Params) : Obj := ⟨.type "tuple", none, .seq #[] 0, #[]⟩
noncomputable def k711_6 (p : Program) (P : Params) : Obj := fc (st p 34 (some 3)) "Segment.row"
noncomputable def k712_6 (p : Program) (P : Params) : Obj := ⟨.type "code", none, .fields #[sv "row" 1118, sv "Segment.row" 1119, sv "/claim/cut.py" 1120, .int 425 0, .int 1 0, .int 0 0, .int 0 0, .int 3 0, .ref 707, .bool true, .int 181 0, .ref 708, .none, .ref 709, .ref 710, .ref 711, .int 1122 0, .int 425 0, sv "/claim/cut.py" 1123], #[]⟩
noncomputable def k713_6 (p : Program) (P : Params) : Obj := fo (st p 34 (some 3)) "Segment.row" (.none) (sv "thinstack.tcp_segment" 1058) (.ref 712)
noncomputable def k714_6 (p : Program) (P : Params) : Obj := ⟨.type "tuple", none, .seq #[sv "ack" 1125, sv "flags" 1126, sv "options" 1127, sv "payload" 1128, sv "seq" 1129, sv "source_port" 1130, sv "target_port" 1131, sv "urgent" 1132, sv "window" 1133] 0, #[]⟩
noncomputable def k715_6 (p : Program) (P : Params) : Obj := ⟨.type "dict", none, .dict (List.toArray [en P "__module__" 1079 (sv "thinstack.tcp_segment" 1058), en P "__firstlineno__" 1083 (.int 406 1082), en P "__init__" 1102 (.ref 692), en P "has" 1110 (.ref 699), en P "length" 1117 (.ref 706), en P "row" 1124 (.ref 713), en P "__static_attributes__" 1134 (.ref 714), en P "__dict__" 1136 (.ref 717), en P "__weakref__" 1138 (.ref 718), en P "__doc__" 1139 (.none)]) 4, #[]⟩
noncomputable def k716_6 (p : Program) (P : Params) : Obj := ⟨.type "type", none, .cls { name := so "Segment", bases := [.type "object"], mro := [.ref 716, .type "object"], ns := 715, qualname := so "Segment", hasDict := true, slotNames := [], subclasses := [], abstract := false, collection := none, hasDel := false }, #[none, none, some (sv "Segment" 1072), some (sv "Segment" 1080), some (.builtin "object.__new__"), some (.bool true)]⟩
noncomputable def k717_6 (p : Program) (P : Params) : Obj := ⟨.type "getset_descriptor", none, .fields #[sv "__dict__" 1135, .ref 716, .builtin "function.__dict__", .builtin "function.__dict__#set"], #[]⟩
noncomputable def k718_6 (p : Program) (P : Params) : Obj := ⟨.type "getset_descriptor", none, .fields #[sv "__weakref__" 1137, .ref 716, .builtin "ExceptionGroup.__weakref__", .none], #[]⟩
noncomputable def k719_6 (p : Program) (P : Params) : Obj := ⟨.type "super", none, .fields #[.ref 716, .ref 716, .ref 716], #[]⟩
noncomputable def k720_6 (p : Program) (P : Params) : Obj := ⟨.type "builtin_function_or_method", none, .fields #[.builtin "object.__init_subclass__", .ref 716], #[]⟩
noncomputable def k721_6 (p : Program) (P : Params) : Obj := ⟨.type "tuple", none, .seq #[] 0, #[]⟩
noncomputable def k722_6 (p : Program) (P : Params) : Obj := ⟨.none, none, .fields #[], #[]⟩
noncomputable def k723_6 (p : Program) (P : Params) : Obj := ⟨.type "tuple", none, .seq #[sv "number" 1145, sv "bits" 1146] 0, #[]⟩
noncomputable def k724_6 (p : Program) (P : Params) : Obj := ⟨.type "tuple", none, .seq #[] 0, #[]⟩
noncomputable def k725_6 (p : Program) (P : Params) : Obj := fc (st p 35 none) "check_number"
noncomputable def k726_6 (p : Program) (P : Params) : Obj := ⟨.type "code", none, .fields #[sv "check_number" 1142, sv "check_number" 1143, sv "/claim/cut.py" 1144, .int 427 0, .int 2 0, .int 0 0, .int 0 0, .int 3 0, .ref 721, .bool true, .int 181 0, .ref 722, .none, .ref 723, .ref 724, .ref 725, .int 1147 0, .int 427 0, sv "/claim/cut.py" 1148], #[]⟩
noncomputable def k727_6 (p : Program) (P : Params) : Obj := fo (st p 35 none) "check_number" (.none) (sv "thinstack.tcp_segment" 1058) (.ref 726)
noncomputable def k728_6 (p : Program) (P : Params) : Obj := ⟨.type "tuple", none, .seq #[] 0, #[]⟩
noncomputable def k729_6 (p : Program) (P : Params) : Obj := ⟨.none, none, .fields #[], #[]⟩
noncomputable def k730_6 (p : Program) (P : Params) : Obj := ⟨.type "tuple", none, .seq #[sv "n" 1153] 0, #[]⟩
noncomputable def k731_6 (p : Program) (P : Params) : Obj := ⟨.type "tuple", none, .seq #[] 0, #[]⟩
noncomputable def k732_6 (p : Program) (P : Params) : Obj := fc (st p 36 none) "mss_option"
noncomputable def k733_6 (p : Program) (P : Params) : Obj := ⟨.type "code", none, .fields #[sv "mss_option" 1150, sv "mss_option" 1151, sv "/claim/cut.py" 1152, .int 430 0, .int 1 0, .int 0 0, .int 0 0, .int 3 0, .ref 728, .bool true, .int 181 0, .ref 729, .none, .ref 730, .ref 731, .ref 732, .int 1154 0, .int 430 0, sv "/claim/cut.py" 1155], #[]⟩
noncomputable def k734_6 (p : Program) (P : Params) : Obj := fo (st p 36 none) "mss_option" (.none) (sv "thinstack.tcp_segment" 1058) (.ref 733)
noncomputable def k735_6 (p : Program) (P : Params) : Obj := ⟨.type "tuple", none, .seq #[] 0, #[]⟩
noncomputable def k736_6 (p : Program) (P : Params) : Obj := ⟨.none, none, .fields #[], #[]⟩
noncomputable def k737_6 (p : Program) (P : Params) : Obj := ⟨.type "tuple", none, .seq #[] 0, #[]⟩
noncomputable def k738_6 (p : Program) (P : Params) : Obj := ⟨.type "tuple", none, .seq #[] 0, #[]⟩
noncomputable def k739_6 (p : Program) (P : Params) : Obj := fc (st p 49 none) "opening_steps"
noncomputable def k740_6 (p : Program) (P : Params) : Obj := ⟨.type "code", none, .fields #[sv "opening_steps" 1181, sv "opening_steps" 1182, sv "/claim/cut.py" 1183, .int 445 0, .int 0 0, .int 0 0, .int 0 0, .int 3 0, .ref 735, .bool true, .int 181 0, .ref 736, .none, .ref 737, .ref 738, .ref 739, .int 1184 0, .int 445 0, sv "/claim/cut.py" 1185], #[]⟩
noncomputable def k741_6 (p : Program) (P : Params) : Obj := fo (st p 49 none) "opening_steps" (.none) (sv "thinstack.tcp_states" 1157) (.ref 740)
noncomputable def k742_6 (p : Program) (P : Params) : Obj := ⟨.type "tuple", none, .seq #[] 0, #[]⟩
noncomputable def k743_6 (p : Program) (P : Params) : Obj := ⟨.none, none, .fields #[], #[]⟩
noncomputable def k744_6 (p : Program) (P : Params) : Obj := ⟨.type "tuple", none, .seq #[] 0, #[]⟩
noncomputable def k745_6 (p : Program) (P : Params) : Obj := ⟨.type "tuple", none, .seq #[] 0, #[]⟩
noncomputable def k746_6 (p : Program) (P : Params) : Obj := fc (st p 50 none) "closing_steps"
noncomputable def k747_6 (p : Program) (P : Params) : Obj := ⟨.type "code", none, .fields #[sv "closing_steps" 1187, sv "closing_steps" 1188, sv "/claim/cut.py" 1189, .int 447 0, .int 0 0, .int 0 0, .int 0 0, .int 3 0, .ref 742, .bool true, .int 181 0, .ref 743, .none, .ref 744, .ref 745, .ref 746, .int 1190 0, .int 447 0, sv "/claim/cut.py" 1191], #[]⟩
noncomputable def k748_6 (p : Program) (P : Params) : Obj := fo (st p 50 none) "closing_steps" (.none) (sv "thinstack.tcp_states" 1157) (.ref 747)
noncomputable def k749_6 (p : Program) (P : Params) : Obj := ⟨.type "tuple", none, .seq #[] 0, #[]⟩
noncomputable def k750_6 (p : Program) (P : Params) : Obj := ⟨.none, none, .fields #[], #[]⟩
noncomputable def k751_6 (p : Program) (P : Params) : Obj := ⟨.type "tuple", none, .seq #[sv "state" 1196, sv "event" 1197, sv "found" 1198] 0, #[]⟩
noncomputable def k752_6 (p : Program) (P : Params) : Obj := ⟨.type "tuple", none, .seq #[] 0, #[]⟩
noncomputable def k753_6 (p : Program) (P : Params) : Obj := fc (st p 51 none) "follow"
noncomputable def k754_6 (p : Program) (P : Params) : Obj := ⟨.type "code", none, .fields #[sv "follow" 1193, sv "follow" 1194, sv "/claim/cut.py" 1195, .int 449 0, .int 2 0, .int 0 0, .int 0 0, .int 3 0, .ref 749, .bool true, .int 181 0, .ref 750, .none, .ref 751, .ref 752, .ref 753, .int 1199 0, .int 449 0, sv "/claim/cut.py" 1200], #[]⟩
noncomputable def k755_6 (p : Program) (P : Params) : Obj := fo (st p 51 none) "follow" (.none) (sv "thinstack.tcp_states" 1157) (.ref 754)
noncomputable def k756_6 (p : Program) (P : Params) : Obj := ⟨.type "tuple", none, .seq #[] 0, #[]⟩
noncomputable def k757_6 (p : Program) (P : Params) : Obj := ⟨.none, none, .fields #[], #[]⟩
noncomputable def k758_6 (p : Program) (P : Params) : Obj := ⟨.type "tuple", none, .seq #[sv "state" 1205] 0, #[]⟩
noncomputable def k759_6 (p : Program) (P : Params) : Obj := ⟨.type "tuple", none, .seq #[] 0, #[]⟩
noncomputable def k760_6 (p : Program) (P : Params) : Obj := fc (st p 52 none) "is_sending"
noncomputable def k761_6 (p : Program) (P : Params) : Obj := ⟨.type "code", none, .fields #[sv "is_sending" 1202, sv "is_sending" 1203, sv "/claim/cut.py" 1204, .int 458 0, .int 1 0, .int 0 0, .int 0 0, .int 3 0, .ref 756, .bool true, .int 181 0, .ref 757, .none, .ref 758, .ref 759, .ref 760, .int 1206 0, .int 458 0, sv "/claim/cut.py" 1207], #[]⟩
noncomputable def k762_6 (p : Program) (P : Params) : Obj := fo (st p 52 none) "is_sending" (.none) (sv "thinstack.tcp_states" 1157) (.ref 761)
noncomputable def T6 (p : Program) (P : Params) : BT := (.node (k0_0 p P) (.node (k1_1 p P) (.node (k3_6 p P) (.node (k7_1 p P) (.node (k15_1 p P) (.node (k31_1 p P) (.node (k63_1 p P) (.node (k127_2 p P) (.node (k255_3 p P) (.node (k511_5 p P) .nil .nil) .nil) (.node (k383_4 p P) (.node (k639_5 p P) .nil .nil) .nil)) (.node (k191_2 p P) (.node (k319_3 p P) (.node (k575_5 p P) .nil .nil) .nil) (.node (k447_4 p P) (.node (k703_6 p P) .nil .nil) .nil))) (.node (k95_1 p P) (.node (k159_2 p P) (.node (k287_3 p P) (.node (k543_5 p P) .nil .nil) .nil) (.node (k415_4 p P) (.node (k671_6 p P) .nil .nil) .nil)) (.node (k223_2 p P) (.node (k351_3 p P) (.node (k607_5 p P) .nil .nil) .nil) (.node (k479_4 p P) (.node (k735_6 p P) .nil .nil) .nil)))) (.node (k47_1 p P) (.node (k79_1 p P) (.node (k143_2 p P) (.node (k271_3 p P) (.node (k527_5 p P) .nil .nil) .nil) (.node (k399_4 p P) (.node (k655_5 p P) .nil .nil) .nil)) (.node (k207_2 p P) (.node (k335_3 p P) (.node (k591_5 p P) .nil .nil) .nil) (.node (k463_4 p P) (.node (k719_6 p P) .nil .nil) .nil))) (.node (k111_2 p P) (.node (k175_2 p P) (.node (k303_3 p P) (.node (k559_5 p P) .nil .nil) .nil) (.node (k431_4 p P) (.node (k687_6 p P) .nil .nil) .nil)) (.node (k239_2 p P) (.node (k367_3 p P) (.node (k623_5 p P) .nil .nil) .nil) (.node (k495_5 p P) (.node (k751_6 p P) .nil .nil) .nil))))) (.node (k23_1 p P) (.node (k39_1 p P) (.node (k71_1 p P) (.node (k135_2 p P) (.node (k263_3 p P) (.node (k519_5 p P) .nil .nil) .nil) (.node (k391_4 p P) (.node (k647_5 p P) .nil .nil) .nil)) (.node (k199_2 p P) (.node (k327_3 p P) (.node (k583_5 p P) .nil .nil) .nil) (.node (k455_4 p P) (.node (k711_6 p P) .nil .nil) .nil))) (.node (k103_2 p P) (.node (k167_2 p P) (.node (k295_3 p P) (.node (k551_5 p P) .nil .nil) .nil) (.node (k423_4 p P) (.node (k679_6 p P) .nil .nil) .nil)) (.node (k231_2 p P) (.node (k359_3 p P) (.node (k615_5 p P) .nil .nil) .nil) (.node (k487_5 p P) (.node (k743_6 p P) .nil .nil) .nil)))) (.node (k55_1 p P) (.node (k87_1 p P) (.node (k151_2 p P) (.node (k279_3 p P) (.node (k535_5 p P) .nil .nil) .nil) (.node (k407_4 p P) (.node (k663_5 p P) .nil .nil) .nil)) (.node (k215_2 p P) (.node (k343_3 p P) (.node (k599_5 p P) .nil .nil) .nil) (.node (k471_4 p P) (.node (k727_6 p P) .nil .nil) .nil))) (.node (k119_2 p P) (.node (k183_2 p P) (.node (k311_3 p P) (.node (k567_5 p P) .nil .nil) .nil) (.node (k439_4 p P) (.node (k695_6 p P) .nil .nil) .nil)) (.node (k247_2 p P) (.node (k375_3 p P) (.node (k631_5 p P) .nil .nil) .nil) (.node (k503_5 p P) (.node (k759_6 p P) .nil .nil) .nil)))))) (.node (k11_0 p P) (.node (k19_1 p P) (.node (k35_1 p P) (.node (k67_1 p P) (.node (k131_2 p P) (.node (k259_3 p P) (.node (k515_5 p P) .nil .nil) .nil) (.node (k387_4 p P) (.node (k643_5 p P) .nil .nil) .nil)) (.node (k195_2 p P) (.node (k323_3 p P) (.node (k579_5 p P) .nil .nil) .nil) (.node (k451_4 p P) (.node (k707_6 p P) .nil .nil) .nil))) (.node (k99_1 p P) (.node (k163_2 p P) (.node (k291_3 p P) (.node (k547_5 p P) .nil .nil) .nil) (.node (k419_4 p P) (.node (k675_6 p P) .nil .nil) .nil)) (.node (k227_2 p P) (.node (k355_3 p P) (.node (k611_5 p P) .nil .nil) .nil) (.node (k483_5 p P) (.node (k739_6 p P) .nil .nil) .nil)))) (.node (k51_1 p P) (.node (k83_1 p P) (.node (k147_2 p P) (.node (k275_3 p P) (.node (k531_5 p P) .nil .nil) .nil) (.node (k403_4 p P) (.node (k659_5 p P) .nil .nil) .nil)) (.node (k211_2 p P) (.node (k339_3 p P) (.node (k595_5 p P) .nil .nil) .nil) (.node (k467_4 p P) (.node (k723_6 p P) .nil .nil) .nil))) (.node (k115_2 p P) (.node (k179_2 p P) (.node (k307_3 p P) (.node (k563_5 p P) .nil .nil) .nil) (.node (k435_4 p P) (.node (k691_6 p P) .nil .nil) .nil)) (.node (k243_2 p P) (.node (k371_3 p P) (.node (k627_5 p P) .nil .nil) .nil) (.node (k499_5 p P) (.node (k755_6 p P) .nil .nil) .nil))))) (.node (k27_1 p P) (.node (k43_1 p P) (.node (k75_1 p P) (.node (k139_2 p P) (.node (k267_3 p P) (.node (k523_5 p P) .nil .nil) .nil) (.node (k395_4 p P) (.node (k651_5 p P) .nil .nil) .nil)) (.node (k203_2 p P) (.node (k331_3 p P) (.node (k587_5 p P) .nil .nil) .nil) (.node (k459_4 p P) (.node (k715_6 p P) .nil .nil) .nil))) (.node (k107_2 p P) (.node (k171_2 p P) (.node (k299_3 p P) (.node (k555_5 p P) .nil .nil) .nil) (.node (k427_4 p P) (.node (k683_6 p P) .nil .nil) .nil)) (.node (k235_2 p P) (.node (k363_3 p P) (.node (k619_5 p P) .nil .nil) .nil) (.node (k491_5 p P) (.node (k747_6 p P) .nil .nil) .nil)))) (.node (k59_1 p P) (.node (k91_1 p P) (.node (k155_2 p P) (.node (k283_3 p P) (.node (k539_5 p P) .nil .nil) .nil) (.node (k411_4 p P) (.node (k667_5 p P) .nil .nil) .nil)) (.node (k219_2 p P) (.node (k347_3 p P) (.node (k603_5 p P) .nil .nil) .nil) (.node (k475_4 p P) (.node (k731_6 p P) .nil .nil) .nil))) (.node (k123_2 p P) (.node (k187_2 p P) (.node (k315_3 p P) (.node (k571_5 p P) .nil .nil) .nil) (.node (k443_4 p P) (.node (k699_6 p P) .nil .nil) .nil)) (.node (k251_3 p P) (.node (k379_3 p P) (.node (k635_5 p P) .nil .nil) .nil) (.node (k507_5 p P) .nil .nil))))))) (.node (k5_1 p P) (.node (k9_1 p P) (.node (k17_1 p P) (.node (k33_1 p P) (.node (k65_1 p P) (.node (k129_2 p P) (.node (k257_3 p P) (.node (k513_5 p P) .nil .nil) .nil) (.node (k385_4 p P) (.node (k641_5 p P) .nil .nil) .nil)) (.node (k193_2 p P) (.node (k321_3 p P) (.node (k577_5 p P) .nil .nil) .nil) (.node (k449_4 p P) (.node (k705_6 p P) .nil .nil) .nil))) (.node (k97_1 p P) (.node (k161_2 p P) (.node (k289_3 p P) (.node (k545_5 p P) .nil .nil) .nil) (.node (k417_4 p P) (.node (k673_6 p P) .nil .nil) .nil)) (.node (k225_2 p P) (.node (k353_3 p P) (.node (k609_5 p P) .nil .nil) .nil) (.node (k481_5 p P) (.node (k737_6 p P) .nil .nil) .nil)))) (.node (k49_1 p P) (.node (k81_1 p P) (.node (k145_2 p P) (.node (k273_3 p P) (.node (k529_5 p P) .nil .nil) .nil) (.node (k401_4 p P) (.node (k657_5 p P) .nil .nil) .nil)) (.node (k209_2 p P) (.node (k337_3 p P) (.node (k593_5 p P) .nil .nil) .nil) (.node (k465_4 p P) (.node (k721_6 p P) .nil .nil) .nil))) (.node (k113_2 p P) (.node (k177_2 p P) (.node (k305_3 p P) (.node (k561_5 p P) .nil .nil) .nil) (.node (k433_4 p P) (.node (k689_6 p P) .nil .nil) .nil)) (.node (k241_2 p P) (.node (k369_3 p P) (.node (k625_5 p P) .nil .nil) .nil) (.node (k497_5 p P) (.node (k753_6 p P) .nil .nil) .nil))))) (.node (k25_1 p P) (.node (k41_1 p P) (.node (k73_1 p P) (.node (k137_2 p P) (.node (k265_3 p P) (.node (k521_5 p P) .nil .nil) .nil) (.node (k393_4 p P) (.node (k649_5 p P) .nil .nil) .nil)) (.node (k201_2 p P) (.node (k329_3 p P) (.node (k585_5 p P) .nil .nil) .nil) (.node (k457_4 p P) (.node (k713_6 p P) .nil .nil) .nil))) (.node (k105_2 p P) (.node (k169_2 p P) (.node (k297_3 p P) (.node (k553_5 p P) .nil .nil) .nil) (.node (k425_4 p P) (.node (k681_6 p P) .nil .nil) .nil)) (.node (k233_2 p P) (.node (k361_3 p P) (.node (k617_5 p P) .nil .nil) .nil) (.node (k489_5 p P) (.node (k745_6 p P) .nil .nil) .nil)))) (.node (k57_1 p P) (.node (k89_1 p P) (.node (k153_2 p P) (.node (k281_3 p P) (.node (k537_5 p P) .nil .nil) .nil) (.node (k409_4 p P) (.node (k665_5 p P) .nil .nil) .nil)) (.node (k217_2 p P) (.node (k345_3 p P) (.node (k601_5 p P) .nil .nil) .nil) (.node (k473_4 p P) (.node (k729_6 p P) .nil .nil) .nil))) (.node (k121_2 p P) (.node (k185_2 p P) (.node (k313_3 p P) (.node (k569_5 p P) .nil .nil) .nil) (.node (k441_4 p P) (.node (k697_6 p P) .nil .nil) .nil)) (.node (k249_3 p P) (.node (k377_3 p P) (.node (k633_5 p P) .nil .nil) .nil) (.node (k505_5 p P) (.node (k761_6 p P) .nil .nil) .nil)))))) (.node (k13_0 p P) (.node (k21_1 p P) (.node (k37_1 p P) (.node (k69_1 p P) (.node (k133_2 p P) (.node (k261_3 p P) (.node (k517_5 p P) .nil .nil) .nil) (.node (k389_4 p P) (.node (k645_5 p P) .nil .nil) .nil)) (.node (k197_2 p P) (.node (k325_3 p P) (.node (k581_5 p P) .nil .nil) .nil) (.node (k453_4 p P) (.node (k709_6 p P) .nil .nil) .nil))) (.node (k101_2 p P) (.node (k165_2 p P) (.node (k293_3 p P) (.node (k549_5 p P) .nil .nil) .nil) (.node (k421_4 p P) (.node (k677_6 p P) .nil .nil) .nil)) (.node (k229_2 p P) (.node (k357_3 p P) (.node (k613_5 p P) .nil .nil) .nil) (.node (k485_5 p P) (.node (k741_6 p P) .nil .nil) .nil)))) (.node (k53_1 p P) (.node (k85_1 p P) (.node (k149_2 p P) (.node (k277_3 p P) (.node (k533_5 p P) .nil .nil) .nil) (.node (k405_4 p P) (.node (k661_5 p P) .nil .nil) .nil)) (.node (k213_2 p P) (.node (k341_3 p P) (.node (k597_5 p P) .nil .nil) .nil) (.node (k469_4 p P) (.node (k725_6 p P) .nil .nil) .nil))) (.node (k117_2 p P) (.node (k181_2 p P) (.node (k309_3 p P) (.node (k565_5 p P) .nil .nil) .nil) (.node (k437_4 p P) (.node (k693_6 p P) .nil .nil) .nil)) (.node (k245_2 p P) (.node (k373_3 p P) (.node (k629_5 p P) .nil .nil) .nil) (.node (k501_5 p P) (.node (k757_6 p P) .nil .nil) .nil))))) (.node (k29_1 p P) (.node (k45_1 p P) (.node (k77_1 p P) (.node (k141_2 p P) (.node (k269_3 p P) (.node (k525_5 p P) .nil .nil) .nil) (.node (k397_4 p P) (.node (k653_5 p P) .nil .nil) .nil)) (.node (k205_2 p P) (.node (k333_3 p P) (.node (k589_5 p P) .nil .nil) .nil) (.node (k461_4 p P) (.node (k717_6 p P) .nil .nil) .nil))) (.node (k109_2 p P) (.node (k173_2 p P) (.node (k301_3 p P) (.node (k557_5 p P) .nil .nil) .nil) (.node (k429_4 p P) (.node (k685_6 p P) .nil .nil) .nil)) (.node (k237_2 p P) (.node (k365_3 p P) (.node (k621_5 p P) .nil .nil) .nil) (.node (k493_5 p P) (.node (k749_6 p P) .nil .nil) .nil)))) (.node (k61_1 p P) (.node (k93_1 p P) (.node (k157_2 p P) (.node (k285_3 p P) (.node (k541_5 p P) .nil .nil) .nil) (.node (k413_4 p P) (.node (k669_5 p P) .nil .nil) .nil)) (.node (k221_2 p P) (.node (k349_3 p P) (.node (k605_5 p P) .nil .nil) .nil) (.node (k477_4 p P) (.node (k733_6 p P) .nil .nil) .nil))) (.node (k125_2 p P) (.node (k189_2 p P) (.node (k317_3 p P) (.node (k573_5 p P) .nil .nil) .nil) (.node (k445_4 p P) (.node (k701_6 p P) .nil .nil) .nil)) (.node (k253_3 p P) (.node (k381_3 p P) (.node (k637_5 p P) .nil .nil) .nil) (.node (k509_5 p P) .nil .nil)))))))) (.node (k2_1 p P) (.node (k4_1 p P) (.node (k8_1 p P) (.node (k16_1 p P) (.node (k32_1 p P) (.node (k64_1 p P) (.node (k128_2 p P) (.node (k256_3 p P) (.node (k512_5 p P) .nil .nil) .nil) (.node (k384_4 p P) (.node (k640_5 p P) .nil .nil) .nil)) (.node (k192_2 p P) (.node (k320_3 p P) (.node (k576_5 p P) .nil .nil) .nil) (.node (k448_4 p P) (.node (k704_6 p P) .nil .nil) .nil))) (.node (k96_1 p P) (.node (k160_2 p P) (.node (k288_3 p P) (.node (k544_5 p P) .nil .nil) .nil) (.node (k416_4 p P) (.node (k672_6 p P) .nil .nil) .nil)) (.node (k224_2 p P) (.node (k352_3 p P) (.node (k608_5 p P) .nil .nil) .nil) (.node (k480_5 p P) (.node (k736_6 p P) .nil .nil) .nil)))) (.node (k48_1 p P) (.node (k80_1 p P) (.node (k144_2 p P) (.node (k272_3 p P) (.node (k528_5 p P) .nil .nil) .nil) (.node (k400_4 p P) (.node (k656_5 p P) .nil .nil) .nil)) (.node (k208_2 p P) (.node (k336_3 p P) (.node (k592_5 p P) .nil .nil) .nil) (.node (k464_4 p P) (.node (k720_6 p P) .nil .nil) .nil))) (.node (k112_2 p P) (.node (k176_2 p P) (.node (k304_3 p P) (.node (k560_5 p P) .nil .nil) .nil) (.node (k432_4 p P) (.node (k688_6 p P) .nil .nil) .nil)) (.node (k240_2 p P) (.node (k368_3 p P) (.node (k624_5 p P) .nil .nil) .nil) (.node (k496_5 p P) (.node (k752_6 p P) .nil .nil) .nil))))) (.node (k24_1 p P) (.node (k40_1 p P) (.node (k72_1 p P) (.node (k136_2 p P) (.node (k264_3 p P) (.node (k520_5 p P) .nil .nil) .nil) (.node (k392_4 p P) (.node (k648_5 p P) .nil .nil) .nil)) (.node (k200_2 p P) (.node (k328_3 p P) (.node (k584_5 p P) .nil .nil) .nil) (.node (k456_4 p P) (.node (k712_6 p P) .nil .nil) .nil))) (.node (k104_2 p P) (.node (k168_2 p P) (.node (k296_3 p P) (.node (k552_5 p P) .nil .nil) .nil) (.node (k424_4 p P) (.node (k680_6 p P) .nil .nil) .nil)) (.node (k232_2 p P) (.node (k360_3 p P) (.node (k616_5 p P) .nil .nil) .nil) (.node (k488_5 p P) (.node (k744_6 p P) .nil .nil) .nil)))) (.node (k56_1 p P) (.node (k88_1 p P) (.node (k152_2 p P) (.node (k280_3 p P) (.node (k536_5 p P) .nil .nil) .nil) (.node (k408_4 p P) (.node (k664_5 p P) .nil .nil) .nil)) (.node (k216_2 p P) (.node (k344_3 p P) (.node (k600_5 p P) .nil .nil) .nil) (.node (k472_4 p P) (.node (k728_6 p P) .nil .nil) .nil))) (.node (k120_2 p P) (.node (k184_2 p P) (.node (k312_3 p P) (.node (k568_5 p P) .nil .nil) .nil) (.node (k440_4 p P) (.node (k696_6 p P) .nil .nil) .nil)) (.node (k248_2 p P) (.node (k376_3 p P) (.node (k632_5 p P) .nil .nil) .nil) (.node (k504_5 p P) (.node (k760_6 p P) .nil .nil) .nil)))))) (.node (k12_6 p P) (.node (k20_1 p P) (.node (k36_1 p P) (.node (k68_1 p P) (.node (k132_2 p P) (.node (k260_3 p P) (.node (k516_5 p P) .nil .nil) .nil) (.node (k388_4 p P) (.node (k644_5 p P) .nil .nil) .nil)) (.node (k196_2 p P) (.node (k324_3 p P) (.node (k580_5 p P) .nil .nil) .nil) (.node (k452_4 p P) (.node (k708_6 p P) .nil .nil) .nil))) (.node (k100_1 p P) (.node (k164_2 p P) (.node (k292_3 p P) (.node (k548_5 p P) .nil .nil) .nil) (.node (k420_4 p P) (.node (k676_6 p P) .nil .nil) .nil)) (.node (k228_2 p P) (.node (k356_3 p P) (.node (k612_5 p P) .nil .nil) .nil) (.node (k484_5 p P) (.node (k740_6 p P) .nil .nil) .nil)))) (.node (k52_1 p P) (.node (k84_1 p P) (.node (k148_2 p P) (.node (k276_3 p P) (.node (k532_5 p P) .nil .nil) .nil) (.node (k404_4 p P) (.node (k660_5 p P) .nil .nil) .nil)) (.node (k212_2 p P) (.node (k340_3 p P) (.node (k596_5 p P) .nil .nil) .nil) (.node (k468_4 p P) (.node (k724_6 p P) .nil .nil) .nil))) (.node (k116_2 p P) (.node (k180_2 p P) (.node (k308_3 p P) (.node (k564_5 p P) .nil .nil) .nil) (.node (k436_4 p P) (.node (k692_6 p P) .nil .nil) .nil)) (.node (k244_2 p P) (.node (k372_3 p P) (.node (k628_5 p P) .nil .nil) .nil) (.node (k500_5 p P) (.node (k756_6 p P) .nil .nil) .nil))))) (.node (k28_1 p P) (.node (k44_1 p P) (.node (k76_1 p P) (.node (k140_2 p P) (.node (k268_3 p P) (.node (k524_5 p P) .nil .nil) .nil) (.node (k396_4 p P) (.node (k652_5 p P) .nil .nil) .nil)) (.node (k204_2 p P) (.node (k332_3 p P) (.node (k588_5 p P) .nil .nil) .nil) (.node (k460_4 p P) (.node (k716_6 p P) .nil .nil) .nil))) (.node (k108_2 p P) (.node (k172_2 p P) (.node (k300_3 p P) (.node (k556_5 p P) .nil .nil) .nil) (.node (k428_4 p P) (.node (k684_6 p P) .nil .nil) .nil)) (.node (k236_2 p P) (.node (k364_3 p P) (.node (k620_5 p P) .nil .nil) .nil) (.node (k492_5 p P) (.node (k748_6 p P) .nil .nil) .nil)))) (.node (k60_1 p P) (.node (k92_1 p P) (.node (k156_2 p P) (.node (k284_3 p P) (.node (k540_5 p P) .nil .nil) .nil) (.node (k412_4 p P) (.node (k668_5 p P) .nil .nil) .nil)) (.node (k220_2 p P) (.node (k348_3 p P) (.node (k604_5 p P) .nil .nil) .nil) (.node (k476_4 p P) (.node (k732_6 p P) .nil .nil) .nil))) (.node (k124_2 p P) (.node (k188_2 p P) (.node (k316_3 p P) (.node (k572_5 p P) .nil .nil) .nil) (.node (k444_4 p P) (.node (k700_6 p P) .nil .nil) .nil)) (.node (k252_3 p P) (.node (k380_3 p P) (.node (k636_5 p P) .nil .nil) .nil) (.node (k508_5 p P) .nil .nil))))))) (.node (k6_1 p P) (.node (k10_1 p P) (.node (k18_1 p P) (.node (k34_1 p P) (.node (k66_1 p P) (.node (k130_2 p P) (.node (k258_3 p P) (.node (k514_5 p P) .nil .nil) .nil) (.node (k386_4 p P) (.node (k642_5 p P) .nil .nil) .nil)) (.node (k194_2 p P) (.node (k322_3 p P) (.node (k578_5 p P) .nil .nil) .nil) (.node (k450_4 p P) (.node (k706_6 p P) .nil .nil) .nil))) (.node (k98_1 p P) (.node (k162_2 p P) (.node (k290_3 p P) (.node (k546_5 p P) .nil .nil) .nil) (.node (k418_4 p P) (.node (k674_6 p P) .nil .nil) .nil)) (.node (k226_2 p P) (.node (k354_3 p P) (.node (k610_5 p P) .nil .nil) .nil) (.node (k482_5 p P) (.node (k738_6 p P) .nil .nil) .nil)))) (.node (k50_1 p P) (.node (k82_1 p P) (.node (k146_2 p P) (.node (k274_3 p P) (.node (k530_5 p P) .nil .nil) .nil) (.node (k402_4 p P) (.node (k658_5 p P) .nil .nil) .nil)) (.node (k210_2 p P) (.node (k338_3 p P) (.node (k594_5 p P) .nil .nil) .nil) (.node (k466_4 p P) (.node (k722_6 p P) .nil .nil) .nil))) (.node (k114_2 p P) (.node (k178_2 p P) (.node (k306_3 p P) (.node (k562_5 p P) .nil .nil) .nil) (.node (k434_4 p P) (.node (k690_6 p P) .nil .nil) .nil)) (.node (k242_2 p P) (.node (k370_3 p P) (.node (k626_5 p P) .nil .nil) .nil) (.node (k498_5 p P) (.node (k754_6 p P) .nil .nil) .nil))))) (.node (k26_1 p P) (.node (k42_1 p P) (.node (k74_1 p P) (.node (k138_2 p P) (.node (k266_3 p P) (.node (k522_5 p P) .nil .nil) .nil) (.node (k394_4 p P) (.node (k650_5 p P) .nil .nil) .nil)) (.node (k202_2 p P) (.node (k330_3 p P) (.node (k586_5 p P) .nil .nil) .nil) (.node (k458_4 p P) (.node (k714_6 p P) .nil .nil) .nil))) (.node (k106_2 p P) (.node (k170_2 p P) (.node (k298_3 p P) (.node (k554_5 p P) .nil .nil) .nil) (.node (k426_4 p P) (.node (k682_6 p P) .nil .nil) .nil)) (.node (k234_2 p P) (.node (k362_3 p P) (.node (k618_5 p P) .nil .nil) .nil) (.node (k490_5 p P) (.node (k746_6 p P) .nil .nil) .nil)))) (.node (k58_1 p P) (.node (k90_1 p P) (.node (k154_2 p P) (.node (k282_3 p P) (.node (k538_5 p P) .nil .nil) .nil) (.node (k410_4 p P) (.node (k666_5 p P) .nil .nil) .nil)) (.node (k218_2 p P) (.node (k346_3 p P) (.node (k602_5 p P) .nil .nil) .nil) (.node (k474_4 p P) (.node (k730_6 p P) .nil .nil) .nil))) (.node (k122_2 p P) (.node (k186_2 p P) (.node (k314_3 p P) (.node (k570_5 p P) .nil .nil) .nil) (.node (k442_4 p P) (.node (k698_6 p P) .nil .nil) .nil)) (.node (k250_3 p P) (.node (k378_3 p P) (.node (k634_5 p P) .nil .nil) .nil) (.node (k506_5 p P) (.node (k762_6 p P) .nil .nil) .nil)))))) (.node (k14_0 p P) (.node (k22_1 p P) (.node (k38_1 p P) (.node (k70_1 p P) (.node (k134_2 p P) (.node (k262_3 p P) (.node (k518_5 p P) .nil .nil) .nil) (.node (k390_4 p P) (.node (k646_5 p P) .nil .nil) .nil)) (.node (k198_2 p P) (.node (k326_3 p P) (.node (k582_5 p P) .nil .nil) .nil) (.node (k454_4 p P) (.node (k710_6 p P) .nil .nil) .nil))) (.node (k102_2 p P) (.node (k166_2 p P) (.node (k294_3 p P) (.node (k550_5 p P) .nil .nil) .nil) (.node (k422_4 p P) (.node (k678_6 p P) .nil .nil) .nil)) (.node (k230_2 p P) (.node (k358_3 p P) (.node (k614_5 p P) .nil .nil) .nil) (.node (k486_5 p P) (.node (k742_6 p P) .nil .nil) .nil)))) (.node (k54_1 p P) (.node (k86_1 p P) (.node (k150_2 p P) (.node (k278_3 p P) (.node (k534_5 p P) .nil .nil) .nil) (.node (k406_4 p P) (.node (k662_5 p P) .nil .nil) .nil)) (.node (k214_2 p P) (.node (k342_3 p P) (.node (k598_5 p P) .nil .nil) .nil) (.node (k470_4 p P) (.node (k726_6 p P) .nil .nil) .nil))) (.node (k118_2 p P) (.node (k182_2 p P) (.node (k310_3 p P) (.node (k566_5 p P) .nil .nil) .nil) (.node (k438_4 p P) (.node (k694_6 p P) .nil .nil) .nil)) (.node (k246_2 p P) (.node (k374_3 p P) (.node (k630_5 p P) .nil .nil) .nil) (.node (k502_5 p P) (.node (k758_6 p P) .nil .nil) .nil))))) (.node (k30_1 p P) (.node (k46_1 p P) (.node (k78_1 p P) (.node (k142_2 p P) (.node (k270_3 p P) (.node (k526_5 p P) .nil .nil) .nil) (.node (k398_4 p P) (.node (k654_5 p P) .nil .nil) .nil)) (.node (k206_2 p P) (.node (k334_3 p P) (.node (k590_5 p P) .nil .nil) .nil) (.node (k462_4 p P) (.node (k718_6 p P) .nil .nil) .nil))) (.node (k110_2 p P) (.node (k174_2 p P) (.node (k302_3 p P) (.node (k558_5 p P) .nil .nil) .nil) (.node (k430_4 p P) (.node (k686_6 p P) .nil .nil) .nil)) (.node (k238_2 p P) (.node (k366_3 p P) (.node (k622_5 p P) .nil .nil) .nil) (.node (k494_5 p P) (.node (k750_6 p P) .nil .nil) .nil)))) (.node (k62_1 p P) (.node (k94_1 p P) (.node (k158_2 p P) (.node (k286_3 p P) (.node (k542_5 p P) .nil .nil) .nil) (.node (k414_4 p P) (.node (k670_5 p P) .nil .nil) .nil)) (.node (k222_2 p P) (.node (k350_3 p P) (.node (k606_5 p P) .nil .nil) .nil) (.node (k478_4 p P) (.node (k734_6 p P) .nil .nil) .nil))) (.node (k126_2 p P) (.node (k190_2 p P) (.node (k318_3 p P) (.node (k574_5 p P) .nil .nil) .nil) (.node (k446_4 p P) (.node (k702_6 p P) .nil .nil) .nil)) (.node (k254_3 p P) (.node (k382_4 p P) (.node (k638_5 p P) .nil .nil) .nil) (.node (k510_5 p P) .nil .nil)))))))))
noncomputable def S6 (p : Program) (w : World) (os : OsState) : SharedT := ⟨T6 p w.params, 763, {}, #[], {}, 1211, os⟩
def pos6 : Pos := ⟨460, 0, 460, 8⟩
noncomputable def k3_7 (p : Program) (P : Params) : Obj := ⟨.type "dict", none, .dict (List.toArray (en P "__name__" 165 (sv "thinstack.tcp_user" 1435) :: (ents3 P).take 60)) 61, #[]⟩
noncomputable def k12_7 (p : Program) (P : Params) : Obj := ⟨.none, none, .fields (List.toArray (vals12.take 84)), #[]⟩
noncomputable def k763_7 (p : Program) (P : Params) : Obj := ⟨.type "tuple", none, .seq #[] 0, #[]⟩
noncomputable def k764_7 (p : Program) (P : Params) : Obj := ⟨.type "builtin_function_or_method", none, .fields #[.builtin "type.__prepare__", .type "type"], #[]⟩
noncomputable def k765_7 (p : Program) (P : Params) : Obj := ⟨.type "dict", none, .dict (List.toArray [en P "__module__" 1218 (sv "thinstack.wheel" 1209), en P "__qualname__" 1220 (sv "Wheel" 1219), en P "__firstlineno__" 1222 (.int 461 1221), en P "__init__" 1229 (.ref 775), en P "put" 1238 (.ref 782), en P "list_of" 1246 (.ref 789), en P "cancel" 1257 (.ref 796), en P "time_of" 1265 (.ref 803), en P "next_time" 1271 (.ref 808), en P "due" 1277 (.ref 813), en P "keys_until" 1287 (.ref 820), en P "__static_attributes__" 1294 (.ref 821)]) 12, #[]⟩
noncomputable def k766_7 (p : Program) (P : Params) : Obj := ⟨.type "tuple", none, .seq #[] 0, #[]⟩
noncomputable def k767_7 (p : Program) (P : Params) : Obj := ⟨.none, none, .fields #[.int 463 0, .int 4 0, .ref 774, .int 471 0, .int 4 0, .ref 781, .int 477 0, .int 4 0, .ref 788, .int 482 0, .int 4 0, .ref 795, .int 489 0, .int 4 0, .ref 802, .int 492 0, .int 4 0, .ref 807, .int 496 0, .int 4 0, .ref 812, .int 508 0, .int 4 0, .ref 819], #[]⟩
noncomputable def k768_7 (p : Program) (P : Params) : Obj := ⟨.type "code", none, .fields #[sv "Wheel" 1213, sv "Wheel" 1214, sv "/claim/cut.py" 1215, .int 461 0, .int 0 0, .int 0 0, .int 0 0, .int 0 0, .ref 766, .bool false, .int 181 0, .ref 767, .none, .none, .none, .none, .int 1216 0, .int 461 0, sv "/claim/cut.py" 1217], #[]⟩
noncomputable def k769_7 (p : Program) (P : Params) : Obj := ⟨.type "frame", none, .plain, #[some (.ref 768), some (.ref 3), some (.ref 765), none, some (sv "thinstack.wheel" 1209), none, some (.ref 0)]⟩
noncomputable def k770_7 (p : Program) (P : Params) : Obj := ⟨.type "tuple", none, .seq #[.int 16 1223] 0, #[]⟩
noncomputable def k771_7 (p : Program) (P : Params) : Obj := ⟨.type "tuple", none, .seq #[] 0, #[]⟩
noncomputable def k772_7 (p : Program) (P : Params) : Obj := ⟨.none, none, .fields #[], #[]⟩
noncomputable def k773_7 (p : Program) (P : Params) : Obj := fc (st p 54 (some 0)) "Wheel.__init__"
noncomputable def k774_7 (p : Program) (P : Params) : Obj := ⟨.type "code", none, .fields #[sv "__init__" 1224, sv "Wheel.__init__" 1225, sv "/claim/cut.py" 1226, .int 463 0, .int 2 0, .int 0 0, .int 0 0, .int 3 0, .ref 771, .bool true, .int 181 0, .ref 772, .none, .none, .none, .ref 773, .int 1227 0, .int 463 0, sv "/claim/cut.py" 1228], #[]⟩
noncomputable def k775_7 (p : Program) (P : Params) : Obj := fo (st p 54 (some 0)) "Wheel.__init__" (.ref 770) (sv "thinstack.wheel" 1209) (.ref 774)
noncomputable def k776_7 (p : Program) (P : Params) : Obj := ⟨.type "tuple", none, .seq #[] 0, #[]⟩
noncomputable def k777_7 (p : Program) (P : Params) : Obj := ⟨.none, none, .fields #[], #[]⟩
noncomputable def k778_7 (p : Program) (P : Params) : Obj := ⟨.type "tuple", none, .seq #[sv "self" 1233, sv "key" 1234, sv "time" 1235] 0, #[]⟩
noncomputable def k779_7 (p : Program) (P : Params) : Obj := ⟨.type "tuple", none, .seq #[] 0, #[]⟩
noncomputable def k780_7 (p : Program) (P : Params) : Obj := fc (st p 54 (some 1)) "Wheel.put"
noncomputable def k781_7 (p : Program) (P : Params) : Obj := ⟨.type "code", none, .fields #[sv "put" 1230, sv "Wheel.put" 1231, sv "/claim/cut.py" 1232, .int 471 0, .int 3 0, .int 0 0, .int 0 0, .int 3 0, .ref 776, .bool true, .int 181 0, .ref 777, .none, .ref 778, .ref 779, .ref 780, .int 1236 0, .int 471 0, sv "/claim/cut.py" 1237], #[]⟩
noncomputable def k782_7 (p : Program) (P : Params) : Obj := fo (st p 54 (some 1)) "Wheel.put" (.none) (sv "thinstack.wheel" 1209) (.ref 781)
noncomputable def k783_7 (p : Program) (P : Params) : Obj := ⟨.type "tuple", none, .seq #[] 0, #[]⟩
noncomputable def k784_7 (p : Program) (P : Params) : Obj := ⟨.none, none, .fields #[], #[]⟩
noncomputable def k785_7 (p : Program) (P : Params) : Obj := ⟨.type "tuple", none, .seq #[sv "self" 1242, sv "time" 1243] 0, #[]⟩
noncomputable def k786_7 (p : Program) (P : Params) : Obj := ⟨.type "tuple", none, .seq #[] 0, #[]⟩
noncomputable def k787_7 (p : Program) (P : Params) : Obj := fc (st p 54 (some 2)) "Wheel.list_of"
noncomputable def k788_7 (p : Program) (P : Params) : Obj := ⟨.type "code", none, .fields #[sv "list_of" 1239, sv "Wheel.list_of" 1240, sv "/claim/cut.py" 1241, .int 477 0, .int 2 0, .int 0 0, .int 0 0, .int 3 0, .ref 783, .bool true, .int 181 0, .ref 784, .none, .ref 785, .ref 786, .ref 787, .int 1244 0, .int 477 0, sv "/claim/cut.py" 1245], #[]⟩
noncomputable def k789_7 (p : Program) (P : Params) : Obj := fo (st p 54 (some 2)) "Wheel.list_of" (.none) (sv "thinstack.wheel" 1209) (.ref 788)
noncomputable def k790_7 (p : Program) (P : Params) : Obj := ⟨.type "tuple", none, .seq #[] 0, #[]⟩
noncomputable def k791_7 (p : Program) (P : Params) : Obj := ⟨.none, none, .fields #[], #[]⟩
noncomputable def k792_7 (p : Program) (P : Params) : Obj := ⟨.type "tuple", none, .seq #[sv "self" 1250, sv "key" 1251, sv "time" 1252, sv "order" 1253, sv "keys" 1254] 0, #[]⟩
noncomputable def k793_7 (p : Program) (P : Params) : Obj := ⟨.type "tuple", none, .seq #[] 0, #[]⟩
noncomputable def k794_7 (p : Program) (P : Params) : Obj := fc (st p 54 (some 3)) "Wheel.cancel"
noncomputable def k795_7 (p : Program) (P : Params) : Obj := ⟨.type "code", none, .fields #[sv "cancel" 1247, sv "Wheel.cancel" 1248, sv "/claim/cut.py" 1249, .int 482 0, .int 2 0, .int 0 0, .int 0 0, .int 3 0, .ref 790, .bool true, .int 181 0, .ref 791, .none, .ref 792, .ref 793, .ref 794, .int 1255 0, .int 482 0, sv "/claim/cut.py" 1256], #[]⟩
noncomputable def k796_7 (p : Program) (P : Params) : Obj := fo (st p 54 (some 3)) "Wheel.cancel" (.none) (sv "thinstack.wheel" 1209) (.ref 795)
noncomputable def k797_7 (p : Program) (P : Params) : Obj := ⟨.type "tuple", none, .seq #[] 0, #[]⟩
noncomputable def k798_7 (p : Program) (P : Params) : Obj := ⟨.none, none, .fields #[], #[]⟩
noncomputable def k799_7 (p : Program) (P : Params) : Obj := ⟨.type "tuple", none, .seq #[sv "self" 1261, sv "key" 1262] 0, #[]⟩
noncomputable def k800_7 (p : Program) (P : Params) : Obj := ⟨.type "tuple", none, .seq #[] 0, #[]⟩
noncomputable def k801_7 (p : Program) (P : Params) : Obj := fc (st p 54 (some 4)) "Wheel.time_of"
noncomputable def k802_7 (p : Program) (P : Params) : Obj := ⟨.type "code", none, .fields #[sv "time_of" 1258, sv "Wheel.time_of" 1259, sv "/claim/cut.py" 1260, .int 489 0, .int 2 0, .int 0 0, .int 0 0, .int 3 0, .ref 797, .bool true, .int 181 0, .ref 798, .none, .ref 799, .ref 800, .ref 801, .int 1263 0, .int 489 0, sv "/claim/cut.py" 1264], #[]⟩
noncomputable def k803_7 (p : Program) (P : Params) : Obj := fo (st p 54 (some 4)) "Wheel.time_of" (.none) (sv "thinstack.wheel" 1209) (.ref 802)
noncomputable def k804_7 (p : Program) (P : Params) : Obj := ⟨.type "tuple", none, .seq #[] 0, #[]⟩
noncomputable def k805_7 (p : Program) (P : Params) : Obj := ⟨.none, none, .fields #[], #[]⟩
noncomputable def k806_7 (p : Program) (P : Params) : Obj := fc (st p 54 (some 5)) "Wheel.next_time"
noncomputable def k807_7 (p : Program) (P : Params) : Obj := ⟨.type "code", none, .fields #[sv "next_time" 1266, sv "Wheel.next_time" 1267, sv "/claim/cut.py" 1268, .int 492 0, .int 1 0, .int 0 0, .int 0 0, .int 3 0, .ref 804, .bool true, .int 181 0, .ref 805, .none, .none, .none, .ref 806, .int 1269 0, .int 492 0, sv "/claim/cut.py" 1270], #[]⟩
noncomputable def k808_7 (p : Program) (P : Params) : Obj := fo (st p 54 (some 5)) "Wheel.next_time" (.none) (sv "thinstack.wheel" 1209) (.ref 807)
noncomputable def k809_7 (p : Program) (P : Params) : Obj := ⟨.type "tuple", none, .seq #[] 0, #[]⟩
noncomputable def k810_7 (p : Program) (P : Params) : Obj := ⟨.none, none, .fields #[], #[]⟩
noncomputable def k811_7 (p : Program) (P : Params) : Obj := fc (st p 54 (some 6)) "Wheel.due"
noncomputable def k812_7 (p : Program) (P : Params) : Obj := ⟨.type "code", none, .fields #[sv "due" 1272, sv "Wheel.due" 1273, sv "/claim/cut.py" 1274, .int 496 0, .int 2 0, .int 0 0, .int 0 0, .int 3 0, .ref 809, .bool true, .int 181 0, .ref 810, .none, .none, .none, .ref 811, .int 1275 0, .int 496 0, sv "/claim/cut.py" 1276], #[]⟩
noncomputable def k813_7 (p : Program) (P : Params) : Obj := fo (st p 54 (some 6)) "Wheel.due" (.none) (sv "thinstack.wheel" 1209) (.ref 812)
noncomputable def k814_7 (p : Program) (P : Params) : Obj := ⟨.type "tuple", none, .seq #[] 0, #[]⟩
noncomputable def k815_7 (p : Program) (P : Params) : Obj := ⟨.none, none, .fields #[], #[]⟩
noncomputable def k816_7 (p : Program) (P : Params) : Obj := ⟨.type "tuple", none, .seq #[sv "self" 1281, sv "now" 1282, sv "found" 1283, sv "time" 1284] 0, #[]⟩
noncomputable def k817_7 (p : Program) (P : Params) : Obj := ⟨.type "tuple", none, .seq #[] 0, #[]⟩
noncomputable def k818_7 (p : Program) (P : Params) : Obj := fc (st p 54 (some 7)) "Wheel.keys_until"
noncomputable def k819_7 (p : Program) (P : Params) : Obj := ⟨.type "code", none, .fields #[sv "keys_until" 1278, sv "Wheel.keys_until" 1279, sv "/claim/cut.py" 1280, .int 508 0, .int 2 0, .int 0 0, .int 0 0, .int 3 0, .ref 814, .bool true, .int 181 0, .ref 815, .none, .ref 816, .ref 817, .ref 818, .int 1285 0, .int 508 0, sv "/claim/cut.py" 1286], #[]⟩
noncomputable def k820_7 (p : Program) (P : Params) : Obj := fo (st p 54 (some 7)) "Wheel.keys_until" (.none) (sv "thinstack.wheel" 1209) (.ref 819)
noncomputable def k821_7 (p : Program) (P : Params) : Obj := ⟨.type "tuple", none, .seq #[sv "entries" 1288, sv "given" 1289, sv "late" 1290, sv "reached" 1291, sv "size" 1292, sv "slots" 1293] 0, #[]⟩
noncomputable def k822_7 (p : Program) (P : Params) : Obj := ⟨.type "dict", none, .dict (List.toArray [en P "__module__" 1218 (sv "thinstack.wheel" 1209), en P "__firstlineno__" 1222 (.int 461 1221), en P "__init__" 1229 (.ref 775), en P "put" 1238 (.ref 782), en P "list_of" 1246 (.ref 789), en P "cancel" 1257 (.ref 796), en P "time_of" 1265 (.ref 803), en P "next_time" 1271 (.ref 808), en P "due" 1277 (.ref 813), en P "keys_until" 1287 (.ref 820), en P "__static_attributes__" 1294 (.ref 821), en P "__dict__" 1296 (.ref 824), en P "__weakref__" 1298 (.ref 825), en P "__doc__" 1299 (.none)]) 4, #[]⟩
noncomputable def k823_7 (p : Program) (P : Params) : Obj := ⟨.type "type", none, .cls { name := so "Wheel", bases := [.type "object"], mro := [.ref 823, .type "object"], ns := 822, qualname := so "Wheel", hasDict := true, slotNames := [], subclasses := [], abstract := false, collection := none, hasDel := false }, #[none, none, some (sv "Wheel" 1211), some (sv "Wheel" 1219), some (.builtin "object.__new__"), some (.bool true)]⟩
noncomputable def k824_7 (p : Program) (P : Params) : Obj := ⟨.type "getset_descriptor", none, .fields #[sv "__dict__" 1295, .ref 823, .builtin "function.__dict__", .builtin "function.__dict__#set"], #[]⟩
noncomputable def k825_7 (p : Program) (P : Params) : Obj := ⟨.type "getset_descriptor", none, .fields #[sv "__weakref__" 1297, .ref 823, .builtin "ExceptionGroup.__weakref__", .none], #[]⟩
noncomputable def k826_7 (p : Program) (P : Params) : Obj := ⟨.type "super", none, .fields #[.ref 823, .ref 823, .ref 823], #[]⟩
noncomputable def k827_7 (p : Program) (P : Params) : Obj := ⟨.type "builtin_function_or_method", none, .fields #[.builtin "object.__init_subclass__", .ref 823], #[]⟩
noncomputable def k828_7 (p : Program) (P : Params) : Obj := ⟨.type "tuple", none, .seq #[] 0, #[]⟩
noncomputable def k829_7 (p : Program) (P : Params) : Obj := ⟨.type "builtin_function_or_method", none, .fields #[.builtin "type.__prepare__", .type "type"], #[]⟩
noncomputable def k830_7 (p : Program) (P : Params) : Obj := ⟨.type "dict", none, .dict (List.toArray [en P "__module__" 1321 (sv "thinstack.tcb" 1302), en P "__qualname__" 1323 (sv "Limits" 1322), en P "__firstlineno__" 1325 (.int 521 1324), en P "__init__" 1342 (.ref 841), en P "__static_attributes__" 1353 (.ref 842)]) 5, #[]⟩
noncomputable def k831_7 (p : Program) (P : Params) : Obj := ⟨.type "tuple", none, .seq #[] 0, #[]⟩
noncomputable def k832_7 (p : Program) (P : Params) : Obj := ⟨.none, none, .fields #[.int 523 0, .int 4 0, .ref 840], #[]⟩
noncomputable def k833_7 (p : Program) (P : Params) : Obj := ⟨.type "code", none, .fields #[sv "Limits" 1316, sv "Limits" 1317, sv "/claim/cut.py" 1318, .int 521 0, .int 0 0, .int 0 0, .int 0 0, .int 0 0, .ref 831, .bool false, .int 181 0, .ref 832, .none, .none, .none, .none, .int 1319 0, .int 521 0, sv "/claim/cut.py" 1320], #[]⟩
noncomputable def k834_7 (p : Program) (P : Params) : Obj := ⟨.type "frame", none, .plain, #[some (.ref 833), some (.ref 3), some (.ref 830), none, some (sv "thinstack.tcb" 1302), none, some (.ref 0)]⟩
noncomputable def k835_7 (p : Program) (P : Params) : Obj := ⟨.type "tuple", none, .seq #[] 0, #[]⟩
noncomputable def k836_7 (p : Program) (P : Params) : Obj := ⟨.none, none, .fields #[], #[]⟩
noncomputable def k837_7 (p : Program) (P : Params) : Obj := ⟨.type "tuple", none, .seq #[sv "self" 1329, sv "ring" 1330, sv "mss" 1331, sv "send_room" 1332, sv "receive_room" 1333, sv "first_timeout" 1334, sv "least_timeout" 1335, sv "most_timeout" 1336, sv "most_tries" 1337, sv "ack_delay" 1338, sv "time_wait" 1339] 0, #[]⟩
noncomputable def k838_7 (p : Program) (P : Params) : Obj := ⟨.type "tuple", none, .seq #[] 0, #[]⟩
noncomputable def k839_7 (p : Program) (P : Params) : Obj := fc (st p 61 (some 0)) "Limits.__init__"
noncomputable def k840_7 (p : Program) (P : Params) : Obj := ⟨.type "code", none, .fields #[sv "__init__" 1326, sv "Limits.__init__" 1327, sv "/claim/cut.py" 1328, .int 523 0, .int 11 0, .int 0 0, .int 0 0, .int 3 0, .ref 835, .bool true, .int 181 0, .ref 836, .none, .ref 837, .ref 838, .ref 839, .int 1340 0, .int 523 0, sv "/claim/cut.py" 1341], #[]⟩
noncomputable def k841_7 (p : Program) (P : Params) : Obj := fo (st p 61 (some 0)) "Limits.__init__" (.none) (sv "thinstack.tcb" 1302) (.ref 840)
noncomputable def k842_7 (p : Program) (P : Params) : Obj := ⟨.type "tuple", none, .seq #[sv "ack_delay" 1343, sv "first_timeout" 1344, sv "least_timeout" 1345, sv "most_timeout" 1346, sv "most_tries" 1347, sv "mss" 1348, sv "receive_room" 1349, sv "ring" 1350, sv "send_room" 1351, sv "time_wait" 1352] 0, #[]⟩
noncomputable def k843_7 (p : Program) (P : Params) : Obj := ⟨.type "dict", none, .dict (List.toArray [en P "__module__" 1321 (sv "thinstack.tcb" 1302), en P "__firstlineno__" 1325 (.int 521 1324), en P "__init__" 1342 (.ref 841), en P "__static_attributes__" 1353 (.ref 842), en P "__dict__" 1355 (.ref 845), en P "__weakref__" 1357 (.ref 846), en P "__doc__" 1358 (.none)]) 4, #[]⟩
noncomputable def k844_7 (p : Program) (P : Params) : Obj := ⟨.type "type", none, .cls { name := so "Limits", bases := [.type "object"], mro := [.ref 844, .type "object"], ns := 843, qualname := so "Limits", hasDict := true, slotNames := [], subclasses := [], abstract := false, collection := none, hasDel := false }, #[none, none, some (sv "Limits" 1314), some (sv "Limits" 1322), some (.builtin "object.__new__"), some (.bool true)]⟩
noncomputable def k845_7 (p : Program) (P : Params) : Obj := ⟨.type "getset_descriptor", none, .fields #[sv "__dict__" 1354, .ref 844, .builtin "function.__dict__", .builtin "function.__dict__#set"], #[]⟩
noncomputable def k846_7 (p : Program) (P : Params) : Obj := ⟨.type "getset_descriptor", none, .fields #[sv "__weakref__" 1356, .ref 844, .builtin "ExceptionGroup.__weakref__", .none], #[]⟩
noncomputable def k847_7 (p : Program) (P : Params) : Obj := ⟨.type "super", none, .fields #[.ref 844, .ref 844, .ref 844], #[]⟩
noncomputable def k848_7 (p : Program) (P : Params) : Obj := ⟨.type "builtin_function_or_method", none, .fields #[.builtin "object.__init_subclass__", .ref 844], #[]⟩
noncomputable def k849_7 (p : Program) (P : Params) : Obj := ⟨.type "tuple", none, .seq #[] 0, #[]⟩
noncomputable def k850_7 (p : Program) (P : Params) : Obj := ⟨.none, none, .fields #[], #[]⟩
noncomputable def k851_7 (p : Program) (P : Params) : Obj := ⟨.type "tuple", none, .seq #[sv "limits" 1364, sv "estimate" 1365] 0, #[]⟩
noncomputable def k852_7 (p : Program) (P : Params) : Obj := ⟨.type "tuple", none, .seq #[] 0, #[]⟩
noncomputable def k853_7 (p : Program) (P : Params) : Obj := fc (st p 62 none) "clock_of"
noncomputable def k854_7 (p : Program) (P : Params) : Obj := ⟨.type "code", none, .fields #[sv "clock_of" 1361, sv "clock_of" 1362, sv "/claim/cut.py" 1363, .int 534 0, .int 1 0, .int 0 0, .int 0 0, .int 3 0, .ref 849, .bool true, .int 181 0, .ref 850, .none, .ref 851, .ref 852, .ref 853, .int 1366 0, .int 534 0, sv "/claim/cut.py" 1367], #[]⟩
noncomputable def k855_7 (p : Program) (P : Params) : Obj := fo (st p 62 none) "clock_of" (.none) (sv "thinstack.tcb" 1302) (.ref 854)
noncomputable def k856_7 (p : Program) (P : Params) : Obj := ⟨.type "tuple", none, .seq #[] 0, #[]⟩
noncomputable def k857_7 (p : Program) (P : Params) : Obj := ⟨.type "builtin_function_or_method", none, .fields #[.builtin "type.__prepare__", .type "type"], #[]⟩
noncomputable def k858_7 (p : Program) (P : Params) : Obj := ⟨.type "dict", none, .dict (List.toArray [en P "__module__" 1376 (sv "thinstack.tcb" 1302), en P "__qualname__" 1378 (sv "Tcb" 1377), en P "__firstlineno__" 1380 (.int 537 1379), en P "__init__" 1391 (.ref 869), en P "window_now" 1398 (.ref 876), en P "make" 1412 (.ref 884), en P "__static_attributes__" 1427 (.ref 885)]) 7, #[]⟩
noncomputable def k859_7 (p : Program) (P : Params) : Obj := ⟨.type "tuple", none, .seq #[] 0, #[]⟩
noncomputable def k860_7 (p : Program) (P : Params) : Obj := ⟨.none, none, .fields #[.int 539 0, .int 4 0, .ref 868, .int 555 0, .int 4 0, .ref 875, .int 560 0, .int 4 0, .ref 883], #[]⟩
noncomputable def k861_7 (p : Program) (P : Params) : Obj := ⟨.type "code", none, .fields #[sv "Tcb" 1371, sv "Tcb" 1372, sv "/claim/cut.py" 1373, .int 537 0, .int 0 0, .int 0 0, .int 0 0, .int 0 0, .ref 859, .bool false, .int 181 0, .ref 860, .none, .none, .none, .none, .int 1374 0, .int 537 0, sv "/claim/cut.py" 1375], #[]⟩
noncomputable def k862_7 (p : Program) (P : Params) : Obj := ⟨.type "frame", none, .plain, #[some (.ref 861), some (.ref 3), some (.ref 858), none, some (sv "thinstack.tcb" 1302), none, some (.ref 0)]⟩
noncomputable def k863_7 (p : Program) (P : Params) : Obj := ⟨.type "tuple", none, .seq #[] 0, #[]⟩
noncomputable def k864_7 (p : Program) (P : Params) : Obj := ⟨.none, none, .fields #[], #[]⟩
noncomputable def k865_7 (p : Program) (P : Params) : Obj := ⟨.type "tuple", none, .seq #[sv "self" 1384, sv "limits" 1385, sv "local" 1386, sv "remote" 1387, sv "iss" 1388] 0, #[]⟩
noncomputable def k866_7 (p : Program) (P : Params) : Obj := ⟨.type "tuple", none, .seq #[] 0, #[]⟩
noncomputable def k867_7 (p : Program) (P : Params) : Obj := fc (st p 63 (some 0)) "Tcb.__init__"
noncomputable def k868_7 (p : Program) (P : Params) : Obj := ⟨.type "code", none, .fields #[sv "__init__" 1381, sv "Tcb.__init__" 1382, sv "/claim/cut.py" 1383, .int 539 0, .int 5 0, .int 0 0, .int 0 0, .int 3 0, .ref 863, .bool true, .int 181 0, .ref 864, .none, .ref 865, .ref 866, .ref 867, .int 1389 0, .int 539 0, sv "/claim/cut.py" 1390], #[]⟩
noncomputable def k869_7 (p : Program) (P : Params) : Obj := fo (st p 63 (some 0)) "Tcb.__init__" (.none) (sv "thinstack.tcb" 1302) (.ref 868)
noncomputable def k870_7 (p : Program) (P : Params) : Obj := ⟨.type "tuple", none, .seq #[] 0, #[]⟩
noncomputable def k871_7 (p : Program) (P : Params) : Obj := ⟨.none, none, .fields #[], #[]⟩
noncomputable def k872_7 (p : Program) (P : Params) : Obj := ⟨.type "tuple", none, .seq #[sv "self" 1395] 0, #[]⟩
noncomputable def k873_7 (p : Program) (P : Params) : Obj := ⟨.type "tuple", none, .seq #[] 0, #[]⟩
noncomputable def k874_7 (p : Program) (P : Params) : Obj := fc (st p 63 (some 1)) "Tcb.window_now"
noncomputable def k875_7 (p : Program) (P : Params) : Obj := ⟨.type "code", none, .fields #[sv "window_now" 1392, sv "Tcb.window_now" 1393, sv "/claim/cut.py" 1394, .int 555 0, .int 1 0, .int 0 0, .int 0 0, .int 3 0, .ref 870, .bool true, .int 181 0, .ref 871, .none, .ref 872, .ref 873, .ref 874, .int 1396 0, .int 555 0, sv "/claim/cut.py" 1397], #[]⟩
noncomputable def k876_7 (p : Program) (P : Params) : Obj := fo (st p 63 (some 1)) "Tcb.window_now" (.none) (sv "thinstack.tcb" 1302) (.ref 875)
noncomputable def k877_7 (p : Program) (P : Params) : Obj := ⟨.type "tuple", none, .seq #[.bytes #[] 1399] 0, #[]⟩
noncomputable def k878_7 (p : Program) (P : Params) : Obj := ⟨.type "tuple", none, .seq #[] 0, #[]⟩
noncomputable def k879_7 (p : Program) (P : Params) : Obj := ⟨.none, none, .fields #[], #[]⟩
noncomputable def k880_7 (p : Program) (P : Params) : Obj := ⟨.type "tuple", none, .seq #[sv "self" 1403, sv "flags" 1404, sv "seq" 1405, sv "payload" 1406, sv "ack" 1407, sv "options" 1408, sv "window" 1409] 0, #[]⟩
noncomputable def k881_7 (p : Program) (P : Params) : Obj := ⟨.type "tuple", none, .seq #[] 0, #[]⟩
noncomputable def k882_7 (p : Program) (P : Params) : Obj := fc (st p 63 (some 2)) "Tcb.make"
noncomputable def k883_7 (p : Program) (P : Params) : Obj := ⟨.type "code", none, .fields #[sv "make" 1400, sv "Tcb.make" 1401, sv "/claim/cut.py" 1402, .int 560 0, .int 4 0, .int 0 0, .int 0 0, .int 3 0, .ref 878, .bool true, .int 181 0, .ref 879, .none, .ref 880, .ref 881, .ref 882, .int 1410 0, .int 560 0, sv "/claim/cut.py" 1411], #[]⟩
noncomputable def k884_7 (p : Program) (P : Params) : Obj := fo (st p 63 (some 2)) "Tcb.make" (.ref 877) (sv "thinstack.tcb" 1302) (.ref 883)
noncomputable def k885_7 (p : Program) (P : Params) : Obj := ⟨.type "tuple", none, .seq #[sv "acks" 1413, sv "clock" 1414, sv "congestion" 1415, sv "error" 1416, sv "is_nagle" 1417, sv "limits" 1418, sv "local" 1419, sv "probes" 1420, sv "receiver" 1421, sv "remote" 1422, sv "sender" 1423, sv "state" 1424, sv "unanswered" 1425, sv "wheel" 1426] 0, #[]⟩
noncomputable def k886_7 (p : Program) (P : Params) : Obj := ⟨.type "dict", none, .dict (List.toArray [en P "__module__" 1376 (sv "thinstack.tcb" 1302), en P "__firstlineno__" 1380 (.int 537 1379), en P "__init__" 1391 (.ref 869), en P "window_now" 1398 (.ref 876), en P "make" 1412 (.ref 884), en P "__static_attributes__" 1427 (.ref 885), en P "__dict__" 1429 (.ref 888), en P "__weakref__" 1431 (.ref 889), en P "__doc__" 1432 (.none)]) 4, #[]⟩
noncomputable def k887_7 (p : Program) (P : Params) : Obj := ⟨.type "type", none, .cls { name := so "Tcb", bases := [.type "object"], mro := [.ref 887, .type "object"], ns := 886, qualname := so "Tcb", hasDict := true, slotNames := [], subclasses := [], abstract := false, collection := none, hasDel := false }, #[none, none, some (sv "Tcb" 1369), some (sv "Tcb" 1377), some (.builtin "object.__new__"), some (.bool true)]⟩
noncomputable def k888_7 (p : Program) (P : Params) : Obj := ⟨.type "getset_descriptor", none, .fields #[sv "__dict__" 1428, .ref 887, .builtin "function.__dict__", .builtin "function.__dict__#set"], #[]⟩
noncomputable def k889_7 (p : Program) (P : Params) : Obj := ⟨.type "getset_descriptor", none, .fields #[sv "__weakref__" 1430, .ref 887, .builtin "ExceptionGroup.__weakref__", .none], #[]⟩
noncomputable def k890_7 (p : Program) (P : Params) : Obj := ⟨.type "super", none, .fields #[.ref 887, .ref 887, .ref 887], #[]⟩
noncomputable def k891_7 (p : Program) (P : Params) : Obj := ⟨.type "builtin_function_or_method", none, .fields #[.builtin "object.__init_subclass__", .ref 887], #[]⟩
noncomputable def T7 (p : Program) (P : Params) : BT := (.node (k0_0 p P) (.node (k1_1 p P) (.node (k3_7 p P) (.node (k7_1 p P) (.node (k15_1 p P) (.node (k31_1 p P) (.node (k63_1 p P) (.node (k127_2 p P) (.node (k255_3 p P) (.node (k511_5 p P) .nil .nil) (.node (k767_7 p P) .nil .nil)) (.node (k383_4 p P) (.node (k639_5 p P) .nil .nil) .nil)) (.node (k191_2 p P) (.node (k319_3 p P) (.node (k575_5 p P) .nil .nil) (.node (k831_7 p P) .nil .nil)) (.node (k447_4 p P) (.node (k703_6 p P) .nil .nil) .nil))) (.node (k95_1 p P) (.node (k159_2 p P) (.node (k287_3 p P) (.node (k543_5 p P) .nil .nil) (.node (k799_7 p P) .nil .nil)) (.node (k415_4 p P) (.node (k671_6 p P) .nil .nil) .nil)) (.node (k223_2 p P) (.node (k351_3 p P) (.node (k607_5 p P) .nil .nil) (.node (k863_7 p P) .nil .nil)) (.node (k479_4 p P) (.node (k735_6 p P) .nil .nil) .nil)))) (.node (k47_1 p P) (.node (k79_1 p P) (.node (k143_2 p P) (.node (k271_3 p P) (.node (k527_5 p P) .nil .nil) (.node (k783_7 p P) .nil .nil)) (.node (k399_4 p P) (.node (k655_5 p P) .nil .nil) .nil)) (.node (k207_2 p P) (.node (k335_3 p P) (.node (k591_5 p P) .nil .nil) (.node (k847_7 p P) .nil .nil)) (.node (k463_4 p P) (.node (k719_6 p P) .nil .nil) .nil))) (.node (k111_2 p P) (.node (k175_2 p P) (.node (k303_3 p P) (.node (k559_5 p P) .nil .nil) (.node (k815_7 p P) .nil .nil)) (.node (k431_4 p P) (.node (k687_6 p P) .nil .nil) .nil)) (.node (k239_2 p P) (.node (k367_3 p P) (.node (k623_5 p P) .nil .nil) (.node (k879_7 p P) .nil .nil)) (.node (k495_5 p P) (.node (k751_6 p P) .nil .nil) .nil))))) (.node (k23_1 p P) (.node (k39_1 p P) (.node (k71_1 p P) (.node (k135_2 p P) (.node (k263_3 p P) (.node (k519_5 p P) .nil .nil) (.node (k775_7 p P) .nil .nil)) (.node (k391_4 p P) (.node (k647_5 p P) .nil .nil) .nil)) (.node (k199_2 p P) (.node (k327_3 p P) (.node (k583_5 p P) .nil .nil) (.node (k839_7 p P) .nil .nil)) (.node (k455_4 p P) (.node (k711_6 p P) .nil .nil) .nil))) (.node (k103_2 p P) (.node (k167_2 p P) (.node (k295_3 p P) (.node (k551_5 p P) .nil .nil) (.node (k807_7 p P) .nil .nil)) (.node (k423_4 p P) (.node (k679_6 p P) .nil .nil) .nil)) (.node (k231_2 p P) (.node (k359_3 p P) (.node (k615_5 p P) .nil .nil) (.node (k871_7 p P) .nil .nil)) (.node (k487_5 p P) (.node (k743_6 p P) .nil .nil) .nil)))) (.node (k55_1 p P) (.node (k87_1 p P) (.node (k151_2 p P) (.node (k279_3 p P) (.node (k535_5 p P) .nil .nil) (.node (k791_7 p P) .nil .nil)) (.node (k407_4 p P) (.node (k663_5 p P) .nil .nil) .nil)) (.node (k215_2 p P) (.node (k343_3 p P) (.node (k599_5 p P) .nil .nil) (.node (k855_7 p P) .nil .nil)) (.node (k471_4 p P) (.node (k727_6 p P) .nil .nil) .nil))) (.node (k119_2 p P) (.node (k183_2 p P) (.node (k311_3 p P) (.node (k567_5 p P) .nil .nil) (.node (k823_7 p P) .nil .nil)) (.node (k439_4 p P) (.node (k695_6 p P) .nil .nil) .nil)) (.node (k247_2 p P) (.node (k375_3 p P) (.node (k631_5 p P) .nil .nil) (.node (k887_7 p P) .nil .nil)) (.node (k503_5 p P) (.node (k759_6 p P) .nil .nil) .nil)))))) (.node (k11_0 p P) (.node (k19_1 p P) (.node (k35_1 p P) (.node (k67_1 p P) (.node (k131_2 p P) (.node (k259_3 p P) (.node (k515_5 p P) .nil .nil) (.node (k771_7 p P) .nil .nil)) (.node (k387_4 p P) (.node (k643_5 p P) .nil .nil) .nil)) (.node (k195_2 p P) (.node (k323_3 p P) (.node (k579_5 p P) .nil .nil) (.node (k835_7 p P) .nil .nil)) (.node (k451_4 p P) (.node (k707_6 p P) .nil .nil) .nil))) (.node (k99_1 p P) (.node (k163_2 p P) (.node (k291_3 p P) (.node (k547_5 p P) .nil .nil) (.node (k803_7 p P) .nil .nil)) (.node (k419_4 p P) (.node (k675_6 p P) .nil .nil) .nil)) (.node (k227_2 p P) (.node (k355_3 p P) (.node (k611_5 p P) .nil .nil) (.node (k867_7 p P) .nil .nil)) (.node (k483_5 p P) (.node (k739_6 p P) .nil .nil) .nil)))) (.node (k51_1 p P) (.node (k83_1 p P) (.node (k147_2 p P) (.node (k275_3 p P) (.node (k531_5 p P) .nil .nil) (.node (k787_7 p P) .nil .nil)) (.node (k403_4 p P) (.node (k659_5 p P) .nil .nil) .nil)) (.node (k211_2 p P) (.node (k339_3 p P) (.node (k595_5 p P) .nil .nil) (.node (k851_7 p P) .nil .nil)) (.node (k467_4 p P) (.node (k723_6 p P) .nil .nil) .nil))) (.node (k115_2 p P) (.node (k179_2 p P) (.node (k307_3 p P) (.node (k563_5 p P) .nil .nil) (.node (k819_7 p P) .nil .nil)) (.node (k435_4 p P) (.node (k691_6 p P) .nil .nil) .nil)) (.node (k243_2 p P) (.node (k371_3 p P) (.node (k627_5 p P) .nil .nil) (.node (k883_7 p P) .nil .nil)) (.node (k499_5 p P) (.node (k755_6 p P) .nil .nil) .nil))))) (.node (k27_1 p P) (.node (k43_1 p P) (.node (k75_1 p P) (.node (k139_2 p P) (.node (k267_3 p P) (.node (k523_5 p P) .nil .nil) (.node (k779_7 p P) .nil .nil)) (.node (k395_4 p P) (.node (k651_5 p P) .nil .nil) .nil)) (.node (k203_2 p P) (.node (k331_3 p P) (.node (k587_5 p P) .nil .nil) (.node (k843_7 p P) .nil .nil)) (.node (k459_4 p P) (.node (k715_6 p P) .nil .nil) .nil))) (.node (k107_2 p P) (.node (k171_2 p P) (.node (k299_3 p P) (.node (k555_5 p P) .nil .nil) (.node (k811_7 p P) .nil .nil)) (.node (k427_4 p P) (.node (k683_6 p P) .nil .nil) .nil)) (.node (k235_2 p P) (.node (k363_3 p P) (.node (k619_5 p P) .nil .nil) (.node (k875_7 p P) .nil .nil)) (.node (k491_5 p P) (.node (k747_6 p P) .nil .nil) .nil)))) (.node (k59_1 p P) (.node (k91_1 p P) (.node (k155_2 p P) (.node (k283_3 p P) (.node (k539_5 p P) .nil .nil) (.node (k795_7 p P) .nil .nil)) (.node (k411_4 p P) (.node (k667_5 p P) .nil .nil) .nil)) (.node (k219_2 p P) (.node (k347_3 p P) (.node (k603_5 p P) .nil .nil) (.node (k859_7 p P) .nil .nil)) (.node (k475_4 p P) (.node (k731_6 p P) .nil .nil) .nil))) (.node (k123_2 p P) (.node (k187_2 p P) (.node (k315_3 p P) (.node (k571_5 p P) .nil .nil) (.node (k827_7 p P) .nil .nil)) (.node (k443_4 p P) (.node (k699_6 p P) .nil .nil) .nil)) (.node (k251_3 p P) (.node (k379_3 p P) (.node (k635_5 p P) .nil .nil) (.node (k891_7 p P) .nil .nil)) (.node (k507_5 p P) (.node (k763_7 p P) .nil .nil) .nil))))))) (.node (k5_1 p P) (.node (k9_1 p P) (.node (k17_1 p P) (.node (k33_1 p P) (.node (k65_1 p P) (.node (k129_2 p P) (.node (k257_3 p P) (.node (k513_5 p P) .nil .nil) (.node (k769_7 p P) .nil .nil)) (.node (k385_4 p P) (.node (k641_5 p P) .nil .nil) .nil)) (.node (k193_2 p P) (.node (k321_3 p P) (.node (k577_5 p P) .nil .nil) (.node (k833_7 p P) .nil .nil)) (.node (k449_4 p P) (.node (k705_6 p P) .nil .nil) .nil))) (.node (k97_1 p P) (.node (k161_2 p P) (.node (k289_3 p P) (.node (k545_5 p P) .nil .nil) (.node (k801_7 p P) .nil .nil)) (.node (k417_4 p P) (.node (k673_6 p P) .nil .nil) .nil)) (.node (k225_2 p P) (.node (k353_3 p P) (.node (k609_5 p P) .nil .nil) (.node (k865_7 p P) .nil .nil)) (.node (k481_5 p P) (.node (k737_6 p P) .nil .nil) .nil)))) (.node (k49_1 p P) (.node (k81_1 p P) (.node (k145_2 p P) (.node (k273_3 p P) (.node (k529_5 p P) .nil .nil) (.node (k785_7 p P) .nil .nil)) (.node (k401_4 p P) (.node (k657_5 p P) .nil .nil) .nil)) (.node (k209_2 p P) (.node (k337_3 p P) (.node (k593_5 p P) .nil .nil) (.node (k849_7 p P) .nil .nil)) (.node (k465_4 p P) (.node (k721_6 p P) .nil .nil) .nil))) (.node (k113_2 p P) (.node (k177_2 p P) (.node (k305_3 p P) (.node (k561_5 p P) .nil .nil) (.node (k817_7 p P) .nil .nil)) (.node (k433_4 p P) (.node (k689_6 p P) .nil .nil) .nil)) (.node (k241_2 p P) (.node (k369_3 p P) (.node (k625_5 p P) .nil .nil) (.node (k881_7 p P) .nil .nil)) (.node (k497_5 p P) (.node (k753_6 p P) .nil .nil) .nil))))) (.node (k25_1 p P) (.node (k41_1 p P) (.node (k73_1 p P) (.node (k137_2 p P) (.node (k265_3 p P) (.node (k521_5 p P) .nil .nil) (.node (k777_7 p P) .nil .nil)) (.node (k393_4 p P) (.node (k649_5 p P) .nil .nil) .nil)) (.node (k201_2 p P) (.node (k329_3 p P) (.node (k585_5 p P) .nil .nil) (.node (k841_7 p P) .nil .nil)) (.node (k457_4 p P) (.node (k713_6 p P) .nil .nil) .nil))) (.node (k105_2 p P) (.node (k169_2 p P) (.node (k297_3 p P) (.node (k553_5 p P) .nil .nil) (.node (k809_7 p P) .nil .nil)) (.node (k425_4 p P) (.node (k681_6 p P) .nil .nil) .nil)) (.node (k233_2 p P) (.node (k361_3 p P) (.node (k617_5 p P) .nil .nil) (.node (k873_7 p P) .nil .nil)) (.node (k489_5 p P) (.node (k745_6 p P) .nil .nil) .nil)))) (.node (k57_1 p P) (.node (k89_1 p P) (.node (k153_2 p P) (.node (k281_3 p P) (.node (k537_5 p P) .nil .nil) (.node (k793_7 p P) .nil .nil)) (.node (k409_4 p P) (.node (k665_5 p P) .nil .nil) .nil)) (.node (k217_2 p P) (.node (k345_3 p P) (.node (k601_5 p P) .nil .nil) (.node (k857_7 p P) .nil .nil)) (.node (k473_4 p P) (.node (k729_6 p P) .nil .nil) .nil))) (.node (k121_2 p P) (.node (k185_2 p P) (.node (k313_3 p P) (.node (k569_5 p P) .nil .nil) (.node (k825_7 p P) .nil .nil)) (.node (k441_4 p P) (.node (k697_6 p P) .nil .nil) .nil)) (.node (k249_3 p P) (.node (k377_3 p P) (.node (k633_5 p P) .nil .nil) (.node (k889_7 p P) .nil .nil)) (.node (k505_5 p P) (.node (k761_6 p P) .nil .nil) .nil)))))) (.node (k13_0 p P) (.node (k21_1 p P) (.node (k37_1 p P) (.node (k69_1 p P) (.node (k133_2 p P) (.node (k261_3 p P) (.node (k517_5 p P) .nil .nil) (.node (k773_7 p P) .nil .nil)) (.node (k389_4 p P) (.node (k645_5 p P) .nil .nil) .nil)) (.node (k197_2 p P) (.node (k325_3 p P) (.node (k581_5 p P) .nil .nil) (.node (k837_7 p P) .nil .nil)) (.node (k453_4 p P) (.node (k709_6 p P) .nil .nil) .nil))) (.node (k101_2 p P) (.node (k165_2 p P) (.node (k293_3 p P) (.node (k549_5 p P) .nil .nil) (.node (k805_7 p P) .nil .nil)) (.node (k421_4 p P) (.node (k677_6 p P) .nil .nil) .nil)) (.node (k229_2 p P) (.node (k357_3 p P) (.node (k613_5 p P) .nil .nil) (.node (k869_7 p P) .nil .nil)) (.node (k485_5 p P) (.node (k741_6 p P) .nil .nil) .nil)))) (.node (k53_1 p P) (.node (k85_1 p P) (.node (k149_2 p P) (.node (k277_3 p P) (.node (k533_5 p P) .nil .nil) (.node (k789_7 p P) .nil .nil)) (.node (k405_4 p P) (.node (k661_5 p P) .nil .nil) .nil)) (.node (k213_2 p P) (.node (k341_3 p P) (.node (k597_5 p P) .nil .nil) (.node (k853_7 p P) .nil .nil)) (.node (k469_4 p P) (.node (k725_6 p P) .nil .nil) .nil))) (.node (k117_2 p P) (.node (k181_2 p P) (.node (k309_3 p P) (.node (k565_5 p P) .nil .nil) (.node (k821_7 p P) .nil .nil)) (.node (k437_4 p P) (.node (k693_6 p P) .nil .nil) .nil)) (.node (k245_2 p P) (.node (k373_3 p P) (.node (k629_5 p P) .nil .nil) (.node (k885_7 p P) .nil .nil)) (.node (k501_5 p P) (.node (k757_6 p P) .nil .nil) .nil))))) (.node (k29_1 p P) (.node (k45_1 p P) (.node (k77_1 p P) (.node (k141_2 p P) (.node (k269_3 p P) (.node (k525_5 p P) .nil .nil) (.node (k781_7 p P) .nil .nil)) (.node (k397_4 p P) (.node (k653_5 p P) .nil .nil) .nil)) (.node (k205_2 p P) (.node (k333_3 p P) (.node (k589_5 p P) .nil .nil) (.node (k845_7 p P) .nil .nil)) (.node (k461_4 p P) (.node (k717_6 p P) .nil .nil) .nil))) (.node (k109_2 p P) (.node (k173_2 p P) (.node (k301_3 p P) (.node (k557_5 p P) .nil .nil) (.node (k813_7 p P) .nil .nil)) (.node (k429_4 p P) (.node (k685_6 p P) .nil .nil) .nil)) (.node (k237_2 p P) (.node (k365_3 p P) (.node (k621_5 p P) .nil .nil) (.node (k877_7 p P) .nil .nil)) (.node (k493_5 p P) (.node (k749_6 p P) .nil .nil) .nil)))) (.node (k61_1 p P) (.node (k93_1 p P) (.node (k157_2 p P) (.node (k285_3 p P) (.node (k541_5 p P) .nil .nil) (.node (k797_7 p P) .nil .nil)) (.node (k413_4 p P) (.node (k669_5 p P) .nil .nil) .nil)) (.node (k221_2 p P) (.node (k349_3 p P) (.node (k605_5 p P) .nil .nil) (.node (k861_7 p P) .nil .nil)) (.node (k477_4 p P) (.node (k733_6 p P) .nil .nil) .nil))) (.node (k125_2 p P) (.node (k189_2 p P) (.node (k317_3 p P) (.node (k573_5 p P) .nil .nil) (.node (k829_7 p P) .nil .nil)) (.node (k445_4 p P) (.node (k701_6 p P) .nil .nil) .nil)) (.node (k253_3 p P) (.node (k381_3 p P) (.node (k637_5 p P) .nil .nil) .nil) (.node (k509_5 p P) (.node (k765_7 p P) .nil .nil) .nil)))))))) (.node (k2_1 p P) (.node (k4_1 p P) (.node (k8_1 p P) (.node (k16_1 p P) (.node (k32_1 p P) (.node (k64_1 p P) (.node (k128_2 p P) (.node (k256_3 p P) (.node (k512_5 p P) .nil .nil) (.node (k768_7 p P) .nil .nil)) (.node (k384_4 p P) (.node (k640_5 p P) .nil .nil) .nil)) (.node (k192_2 p P) (.node (k320_3 p P) (.node (k576_5 p P) .nil .nil) (.node (k832_7 p P) .nil .nil)) (.node (k448_4 p P) (.node (k704_6 p P) .nil .nil) .nil))) (.node (k96_1 p P) (.node (k160_2 p P) (.node (k288_3 p P) (.node (k544_5 p P) .nil .nil) (.node (k800_7 p P) .nil .nil)) (.node (k416_4 p P) (.node (k672_6 p P) .nil .nil) .nil)) (.node (k224_2 p P) (.node (k352_3 p P) (.node (k608_5 p P) .nil .nil) (.node (k864_7 p P) .nil .nil)) (.node (k480_5 p P) (.node (k736_6 p P) .nil .nil) .nil)))) (.node (k48_1 p P) (.node (k80_1 p P) (.node (k144_2 p P) (.node (k272_3 p P) (.node (k528_5 p P) .nil .nil) (.node (k784_7 p P) .nil .nil)) (.node (k400_4 p P) (.node (k656_5 p P) .nil .nil) .nil)) (.node (k208_2 p P) (.node (k336_3 p P) (.node (k592_5 p P) .nil .nil) (.node (k848_7 p P) .nil .nil)) (.node (k464_4 p P) (.node (k720_6 p P) .nil .nil) .nil))) (.node (k112_2 p P) (.node (k176_2 p P) (.node (k304_3 p P) (.node (k560_5 p P) .nil .nil) (.node (k816_7 p P) .nil .nil)) (.node (k432_4 p P) (.node (k688_6 p P) .nil .nil) .nil)) (.node (k240_2 p P) (.node (k368_3 p P) (.node (k624_5 p P) .nil .nil) (.node (k880_7 p P) .nil .nil)) (.node (k496_5 p P) (.node (k752_6 p P) .nil .nil) .nil))))) (.node (k24_1 p P) (.node (k40_1 p P) (.node (k72_1 p P) (.node (k136_2 p P) (.node (k264_3 p P) (.node (k520_5 p P) .nil .nil) (.node (k776_7 p P) .nil .nil)) (.node (k392_4 p P) (.node (k648_5 p P) .nil .nil) .nil)) (.node (k200_2 p P) (.node (k328_3 p P) (.node (k584_5 p P) .nil .nil) (.node (k840_7 p P) .nil .nil)) (.node (k456_4 p P) (.node (k712_6 p P) .nil .nil) .nil))) (.node (k104_2 p P) (.node (k168_2 p P) (.node (k296_3 p P) (.node (k552_5 p P) .nil .nil) (.node (k808_7 p P) .nil .nil)) (.node (k424_4 p P) (.node (k680_6 p P) .nil .nil) .nil)) (.node (k232_2 p P) (.node (k360_3 p P) (.node (k616_5 p P) .nil .nil) (.node (k872_7 p P) .nil .nil)) (.node (k488_5 p P) (.node (k744_6 p P) .nil .nil) .nil)))) (.node (k56_1 p P) (.node (k88_1 p P) (.node (k152_2 p P) (.node (k280_3 p P) (.node (k536_5 p P) .nil .nil) (.node (k792_7 p P) .nil .nil)) (.node (k408_4 p P) (.node (k664_5 p P) .nil .nil) .nil)) (.node (k216_2 p P) (.node (k344_3 p P) (.node (k600_5 p P) .nil .nil) (.node (k856_7 p P) .nil .nil)) (.node (k472_4 p P) (.node (k728_6 p P) .nil .nil) .nil))) (.node (k120_2 p P) (.node (k184_2 p P) (.node (k312_3 p P) (.node (k568_5 p P) .nil .nil) (.node (k824_7 p P) .nil .nil)) (.node (k440_4 p P) (.node (k696_6 p P) .nil .nil) .nil)) (.node (k248_2 p P) (.node (k376_3 p P) (.node (k632_5 p P) .nil .nil) (.node (k888_7 p P) .nil .nil)) (.node (k504_5 p P) (.node (k760_6 p P) .nil .nil) .nil)))))) (.node (k12_7 p P) (.node (k20_1 p P) (.node (k36_1 p P) (.node (k68_1 p P) (.node (k132_2 p P) (.node (k260_3 p P) (.node (k516_5 p P) .nil .nil) (.node (k772_7 p P) .nil .nil)) (.node (k388_4 p P) (.node (k644_5 p P) .nil .nil) .nil)) (.node (k196_2 p P) (.node (k324_3 p P) (.node (k580_5 p P) .nil .nil) (.node (k836_7 p P) .nil .nil)) (.node (k452_4 p P) (.node (k708_6 p P) .nil .nil) .nil))) (.node (k100_1 p P) (.node (k164_2 p P) (.node (k292_3 p P) (.node (k548_5 p P) .nil .nil) (.node (k804_7 p P) .nil .nil)) (.node (k420_4 p P) (.node (k676_6 p P) .nil .nil) .nil)) (.node (k228_2 p P) (.node (k356_3 p P) (.node (k612_5 p P) .nil .nil) (.node (k868_7 p P) .nil .nil)) (.node (k484_5 p P) (.node (k740_6 p P) .nil .nil) .nil)))) (.node (k52_1 p P) (.node (k84_1 p P) (.node (k148_2 p P) (.node (k276_3 p P) (.node (k532_5 p P) .nil .nil) (.node (k788_7 p P) .nil .nil)) (.node (k404_4 p P) (.node (k660_5 p P) .nil .nil) .nil)) (.node (k212_2 p P) (.node (k340_3 p P) (.node (k596_5 p P) .nil .nil) (.node (k852_7 p P) .nil .nil)) (.node (k468_4 p P) (.node (k724_6 p P) .nil .nil) .nil))) (.node (k116_2 p P) (.node (k180_2 p P) (.node (k308_3 p P) (.node (k564_5 p P) .nil .nil) (.node (k820_7 p P) .nil .nil)) (.node (k436_4 p P) (.node (k692_6 p P) .nil .nil) .nil)) (.node (k244_2 p P) (.node (k372_3 p P) (.node (k628_5 p P) .nil .nil) (.node (k884_7 p P) .nil .nil)) (.node (k500_5 p P) (.node (k756_6 p P) .nil .nil) .nil))))) (.node (k28_1 p P) (.node (k44_1 p P) (.node (k76_1 p P) (.node (k140_2 p P) (.node (k268_3 p P) (.node (k524_5 p P) .nil .nil) (.node (k780_7 p P) .nil .nil)) (.node (k396_4 p P) (.node (k652_5 p P) .nil .nil) .nil)) (.node (k204_2 p P) (.node (k332_3 p P) (.node (k588_5 p P) .nil .nil) (.node (k844_7 p P) .nil .nil)) (.node (k460_4 p P) (.node (k716_6 p P) .nil .nil) .nil))) (.node (k108_2 p P) (.node (k172_2 p P) (.node (k300_3 p P) (.node (k556_5 p P) .nil .nil) (.node (k812_7 p P) .nil .nil)) (.node (k428_4 p P) (.node (k684_6 p P) .nil .nil) .nil)) (.node (k236_2 p P) (.node (k364_3 p P) (.node (k620_5 p P) .nil .nil) (.node (k876_7 p P) .nil .nil)) (.node (k492_5 p P) (.node (k748_6 p P) .nil .nil) .nil)))) (.node (k60_1 p P) (.node (k92_1 p P) (.node (k156_2 p P) (.node (k284_3 p P) (.node (k540_5 p P) .nil .nil) (.node (k796_7 p P) .nil .nil)) (.node (k412_4 p P) (.node (k668_5 p P) .nil .nil) .nil)) (.node (k220_2 p P) (.node (k348_3 p P) (.node (k604_5 p P) .nil .nil) (.node (k860_7 p P) .nil .nil)) (.node (k476_4 p P) (.node (k732_6 p P) .nil .nil) .nil))) (.node (k124_2 p P) (.node (k188_2 p P) (.node (k316_3 p P) (.node (k572_5 p P) .nil .nil) (.node (k828_7 p P) .nil .nil)) (.node (k444_4 p P) (.node (k700_6 p P) .nil .nil) .nil)) (.node (k252_3 p P) (.node (k380_3 p P) (.node (k636_5 p P) .nil .nil) .nil) (.node (k508_5 p P) (.node (k764_7 p P) .nil .nil) .nil))))))) (.node (k6_1 p P) (.node (k10_1 p P) (.node (k18_1 p P) (.node (k34_1 p P) (.node (k66_1 p P) (.node (k130_2 p P) (.node (k258_3 p P) (.node (k514_5 p P) .nil .nil) (.node (k770_7 p P) .nil .nil)) (.node (k386_4 p P) (.node (k642_5 p P) .nil .nil) .nil)) (.node (k194_2 p P) (.node (k322_3 p P) (.node (k578_5 p P) .nil .nil) (.node (k834_7 p P) .nil .nil)) (.node (k450_4 p P) (.node (k706_6 p P) .nil .nil) .nil))) (.node (k98_1 p P) (.node (k162_2 p P) (.node (k290_3 p P) (.node (k546_5 p P) .nil .nil) (.node (k802_7 p P) .nil .nil)) (.node (k418_4 p P) (.node (k674_6 p P) .nil .nil) .nil)) (.node (k226_2 p P) (.node (k354_3 p P) (.node (k610_5 p P) .nil .nil) (.node (k866_7 p P) .nil .nil)) (.node (k482_5 p P) (.node (k738_6 p P) .nil .nil) .nil)))) (.node (k50_1 p P) (.node (k82_1 p P) (.node (k146_2 p P) (.node (k274_3 p P) (.node (k530_5 p P) .nil .nil) (.node (k786_7 p P) .nil .nil)) (.node (k402_4 p P) (.node (k658_5 p P) .nil .nil) .nil)) (.node (k210_2 p P) (.node (k338_3 p P) (.node (k594_5 p P) .nil .nil) (.node (k850_7 p P) .nil .nil)) (.node (k466_4 p P) (.node (k722_6 p P) .nil .nil) .nil))) (.node (k114_2 p P) (.node (k178_2 p P) (.node (k306_3 p P) (.node (k562_5 p P) .nil .nil) (.node (k818_7 p P) .nil .nil)) (.node (k434_4 p P) (.node (k690_6 p P) .nil .nil) .nil)) (.node (k242_2 p P) (.node (k370_3 p P) (.node (k626_5 p P) .nil .nil) (.node (k882_7 p P) .nil .nil)) (.node (k498_5 p P) (.node (k754_6 p P) .nil .nil) .nil))))) (.node (k26_1 p P) (.node (k42_1 p P) (.node (k74_1 p P) (.node (k138_2 p P) (.node (k266_3 p P) (.node (k522_5 p P) .nil .nil) (.node (k778_7 p P) .nil .nil)) (.node (k394_4 p P) (.node (k650_5 p P) .nil .nil) .nil)) (.node (k202_2 p P) (.node (k330_3 p P) (.node (k586_5 p P) .nil .nil) (.node (k842_7 p P) .nil .nil)) (.node (k458_4 p P) (.node (k714_6 p P) .nil .nil) .nil))) (.node (k106_2 p P) (.node (k170_2 p P) (.node (k298_3 p P) (.node (k554_5 p P) .nil .nil) (.node (k810_7 p P) .nil .nil)) (.node (k426_4 p P) (.node (k682_6 p P) .nil .nil) .nil)) (.node (k234_2 p P) (.node (k362_3 p P) (.node (k618_5 p P) .nil .nil) (.node (k874_7 p P) .nil .nil)) (.node (k490_5 p P) (.node (k746_6 p P) .nil .nil) .nil)))) (.node (k58_1 p P) (.node (k90_1 p P) (.node (k154_2 p P) (.node (k282_3 p P) (.node (k538_5 p P) .nil .nil) (.node (k794_7 p P) .nil .nil)) (.node (k410_4 p P) (.node (k666_5 p P) .nil .nil) .nil)) (.node (k218_2 p P) (.node (k346_3 p P) (.node (k602_5 p P) .nil .nil) (.node (k858_7 p P) .nil .nil)) (.node (k474_4 p P) (.node (k730_6 p P) .nil .nil) .nil))) (.node (k122_2 p P) (.node (k186_2 p P) (.node (k314_3 p P) (.node (k570_5 p P) .nil .nil) (.node (k826_7 p P) .nil .nil)) (.node (k442_4 p P) (.node (k698_6 p P) .nil .nil) .nil)) (.node (k250_3 p P) (.node (k378_3 p P) (.node (k634_5 p P) .nil .nil) (.node (k890_7 p P) .nil .nil)) (.node (k506_5 p P) (.node (k762_6 p P) .nil .nil) .nil)))))) (.node (k14_0 p P) (.node (k22_1 p P) (.node (k38_1 p P) (.node (k70_1 p P) (.node (k134_2 p P) (.node (k262_3 p P) (.node (k518_5 p P) .nil .nil) (.node (k774_7 p P) .nil .nil)) (.node (k390_4 p P) (.node (k646_5 p P) .nil .nil) .nil)) (.node (k198_2 p P) (.node (k326_3 p P) (.node (k582_5 p P) .nil .nil) (.node (k838_7 p P) .nil .nil)) (.node (k454_4 p P) (.node (k710_6 p P) .nil .nil) .nil))) (.node (k102_2 p P) (.node (k166_2 p P) (.node (k294_3 p P) (.node (k550_5 p P) .nil .nil) (.node (k806_7 p P) .nil .nil)) (.node (k422_4 p P) (.node (k678_6 p P) .nil .nil) .nil)) (.node (k230_2 p P) (.node (k358_3 p P) (.node (k614_5 p P) .nil .nil) (.node (k870_7 p P) .nil .nil)) (.node (k486_5 p P) (.node (k742_6 p P) .nil .nil) .nil)))) (.node (k54_1 p P) (.node (k86_1 p P) (.node (k150_2 p P) (.node (k278_3 p P) (.node (k534_5 p P) .nil .nil) (.node (k790_7 p P) .nil .nil)) (.node (k406_4 p P) (.node (k662_5 p P) .nil .nil) .nil)) (.node (k214_2 p P) (.node (k342_3 p P) (.node (k598_5 p P) .nil .nil) (.node (k854_7 p P) .nil .nil)) (.node (k470_4 p P) (.node (k726_6 p P) .nil .nil) .nil))) (.node (k118_2 p P) (.node (k182_2 p P) (.node (k310_3 p P) (.node (k566_5 p P) .nil .nil) (.node (k822_7 p P) .nil .nil)) (.node (k438_4 p P) (.node (k694_6 p P) .nil .nil) .nil)) (.node (k246_2 p P) (.node (k374_3 p P) (.node (k630_5 p P) .nil .nil) (.node (k886_7 p P) .nil .nil)) (.node (k502_5 p P) (.node (k758_6 p P) .nil .nil) .nil))))) (.node (k30_1 p P) (.node (k46_1 p P) (.node (k78_1 p P) (.node (k142_2 p P) (.node (k270_3 p P) (.node (k526_5 p P) .nil .nil) (.node (k782_7 p P) .nil .nil)) (.node (k398_4 p P) (.node (k654_5 p P) .nil .nil) .nil)) (.node (k206_2 p P) (.node (k334_3 p P) (.node (k590_5 p P) .nil .nil) (.node (k846_7 p P) .nil .nil)) (.node (k462_4 p P) (.node (k718_6 p P) .nil .nil) .nil))) (.node (k110_2 p P) (.node (k174_2 p P) (.node (k302_3 p P) (.node (k558_5 p P) .nil .nil) (.node (k814_7 p P) .nil .nil)) (.node (k430_4 p P) (.node (k686_6 p P) .nil .nil) .nil)) (.node (k238_2 p P) (.node (k366_3 p P) (.node (k622_5 p P) .nil .nil) (.node (k878_7 p P) .nil .nil)) (.node (k494_5 p P) (.node (k750_6 p P) .nil .nil) .nil)))) (.node (k62_1 p P) (.node (k94_1 p P) (.node (k158_2 p P) (.node (k286_3 p P) (.node (k542_5 p P) .nil .nil) (.node (k798_7 p P) .nil .nil)) (.node (k414_4 p P) (.node (k670_5 p P) .nil .nil) .nil)) (.node (k222_2 p P) (.node (k350_3 p P) (.node (k606_5 p P) .nil .nil) (.node (k862_7 p P) .nil .nil)) (.node (k478_4 p P) (.node (k734_6 p P) .nil .nil) .nil))) (.node (k126_2 p P) (.node (k190_2 p P) (.node (k318_3 p P) (.node (k574_5 p P) .nil .nil) (.node (k830_7 p P) .nil .nil)) (.node (k446_4 p P) (.node (k702_6 p P) .nil .nil) .nil)) (.node (k254_3 p P) (.node (k382_4 p P) (.node (k638_5 p P) .nil .nil) .nil) (.node (k510_5 p P) (.node (k766_7 p P) .nil .nil) .nil)))))))))
noncomputable def S7 (p : Program) (w : World) (os : OsState) : SharedT := ⟨T7 p w.params, 892, {}, #[], {}, 1439, os⟩
def pos7 : Pos := ⟨571, 0, 571, 19⟩
noncomputable def k3_8 (p : Program) (P : Params) : Obj := ⟨.type "dict", none, .dict (List.toArray (en P "__name__" 165 (sv "law_xw0342_01" 1529) :: (ents3 P).take 77)) 78, #[]⟩
noncomputable def k12_8 (p : Program) (P : Params) : Obj := ⟨.none, none, .fields (List.toArray (vals12.take 135)), #[]⟩
noncomputable def k892_8 (p : Program) (P : Params) : Obj := ⟨.type "tuple", none, .seq #[] 0, #[]⟩
noncomputable def k893_8 (p : Program) (P : Params) : Obj := ⟨.none, none, .fields #[], #[]⟩
noncomputable def k894_8 (p : Program) (P : Params) : Obj := ⟨.type "tuple", none, .seq #[sv "tcb" 1442, sv "event" 1443, sv "state" 1444] 0, #[]⟩
noncomputable def k895_8 (p : Program) (P : Params) : Obj := ⟨.type "tuple", none, .seq #[] 0, #[]⟩
noncomputable def k896_8 (p : Program) (P : Params) : Obj := fc (st p 66 none) "change_state"
noncomputable def k897_8 (p : Program) (P : Params) : Obj := ⟨.type "code", none, .fields #[sv "change_state" 1439, sv "change_state" 1440, sv "/claim/cut.py" 1441, .int 572 0, .int 2 0, .int 0 0, .int 0 0, .int 3 0, .ref 892, .bool true, .int 181 0, .ref 893, .none, .ref 894, .ref 895, .ref 896, .int 1445 0, .int 572 0, sv "/claim/cut.py" 1446], #[]⟩
noncomputable def k898_8 (p : Program) (P : Params) : Obj := fo (st p 66 none) "change_state" (.none) (sv "thinstack.tcp_user" 1435) (.ref 897)
noncomputable def k899_8 (p : Program) (P : Params) : Obj := ⟨.type "tuple", none, .seq #[] 0, #[]⟩
noncomputable def k900_8 (p : Program) (P : Params) : Obj := ⟨.none, none, .fields #[], #[]⟩
noncomputable def k901_8 (p : Program) (P : Params) : Obj := ⟨.type "tuple", none, .seq #[sv "tcb" 1451, sv "now" 1452] 0, #[]⟩
noncomputable def k902_8 (p : Program) (P : Params) : Obj := ⟨.type "tuple", none, .seq #[] 0, #[]⟩
noncomputable def k903_8 (p : Program) (P : Params) : Obj := fc (st p 67 none) "open_active"
noncomputable def k904_8 (p : Program) (P : Params) : Obj := ⟨.type "code", none, .fields #[sv "open_active" 1448, sv "open_active" 1449, sv "/claim/cut.py" 1450, .int 577 0, .int 2 0, .int 0 0, .int 0 0, .int 3 0, .ref 899, .bool true, .int 181 0, .ref 900, .none, .ref 901, .ref 902, .ref 903, .int 1453 0, .int 577 0, sv "/claim/cut.py" 1454], #[]⟩
noncomputable def k905_8 (p : Program) (P : Params) : Obj := fo (st p 67 none) "open_active" (.none) (sv "thinstack.tcp_user" 1435) (.ref 904)
noncomputable def k906_8 (p : Program) (P : Params) : Obj := ⟨.type "tuple", none, .seq #[] 0, #[]⟩
noncomputable def k907_8 (p : Program) (P : Params) : Obj := ⟨.none, none, .fields #[], #[]⟩
noncomputable def k908_8 (p : Program) (P : Params) : Obj := ⟨.type "tuple", none, .seq #[sv "tcb" 1459] 0, #[]⟩
noncomputable def k909_8 (p : Program) (P : Params) : Obj := ⟨.type "tuple", none, .seq #[] 0, #[]⟩
noncomputable def k910_8 (p : Program) (P : Params) : Obj := fc (st p 68 none) "syn_segment"
noncomputable def k911_8 (p : Program) (P : Params) : Obj := ⟨.type "code", none, .fields #[sv "syn_segment" 1456, sv "syn_segment" 1457, sv "/claim/cut.py" 1458, .int 580 0, .int 1 0, .int 0 0, .int 0 0, .int 3 0, .ref 906, .bool true, .int 181 0, .ref 907, .none, .ref 908, .ref 909, .ref 910, .int 1460 0, .int 580 0, sv "/claim/cut.py" 1461], #[]⟩
noncomputable def k912_8 (p : Program) (P : Params) : Obj := fo (st p 68 none) "syn_segment" (.none) (sv "thinstack.tcp_user" 1435) (.ref 911)
noncomputable def k913_8 (p : Program) (P : Params) : Obj := ⟨.type "tuple", none, .seq #[] 0, #[]⟩
noncomputable def k914_8 (p : Program) (P : Params) : Obj := ⟨.none, none, .fields #[], #[]⟩
noncomputable def k915_8 (p : Program) (P : Params) : Obj := ⟨.type "tuple", none, .seq #[sv "has_push" 1466, sv "has_fin" 1467, sv "flags" 1468] 0, #[]⟩
noncomputable def k916_8 (p : Program) (P : Params) : Obj := ⟨.type "tuple", none, .seq #[] 0, #[]⟩
noncomputable def k917_8 (p : Program) (P : Params) : Obj := fc (st p 69 none) "flags_of"
noncomputable def k918_8 (p : Program) (P : Params) : Obj := ⟨.type "code", none, .fields #[sv "flags_of" 1463, sv "flags_of" 1464, sv "/claim/cut.py" 1465, .int 582 0, .int 2 0, .int 0 0, .int 0 0, .int 3 0, .ref 913, .bool true, .int 181 0, .ref 914, .none, .ref 915, .ref 916, .ref 917, .int 1469 0, .int 582 0, sv "/claim/cut.py" 1470], #[]⟩
noncomputable def k919_8 (p : Program) (P : Params) : Obj := fo (st p 69 none) "flags_of" (.none) (sv "thinstack.tcp_user" 1435) (.ref 918)
noncomputable def k920_8 (p : Program) (P : Params) : Obj := ⟨.type "tuple", none, .seq #[] 0, #[]⟩
noncomputable def k921_8 (p : Program) (P : Params) : Obj := ⟨.none, none, .fields #[], #[]⟩
noncomputable def k922_8 (p : Program) (P : Params) : Obj := ⟨.type "tuple", none, .seq #[sv "tcb" 1475, sv "state" 1476] 0, #[]⟩
noncomputable def k923_8 (p : Program) (P : Params) : Obj := ⟨.type "tuple", none, .seq #[] 0, #[]⟩
noncomputable def k924_8 (p : Program) (P : Params) : Obj := fc (st p 70 none) "take_asked_fin"
noncomputable def k925_8 (p : Program) (P : Params) : Obj := ⟨.type "code", none, .fields #[sv "take_asked_fin" 1472, sv "take_asked_fin" 1473, sv "/claim/cut.py" 1474, .int 589 0, .int 1 0, .int 0 0, .int 0 0, .int 3 0, .ref 920, .bool true, .int 181 0, .ref 921, .none, .ref 922, .ref 923, .ref 924, .int 1477 0, .int 589 0, sv "/claim/cut.py" 1478], #[]⟩
noncomputable def k926_8 (p : Program) (P : Params) : Obj := fo (st p 70 none) "take_asked_fin" (.none) (sv "thinstack.tcp_user" 1435) (.ref 925)
noncomputable def k927_8 (p : Program) (P : Params) : Obj := ⟨.type "tuple", none, .seq #[] 0, #[]⟩
noncomputable def k928_8 (p : Program) (P : Params) : Obj := ⟨.none, none, .fields #[], #[]⟩
noncomputable def k929_8 (p : Program) (P : Params) : Obj := ⟨.type "tuple", none, .seq #[sv "tcb" 1483, sv "now" 1484, sv "found" 1485, sv "ring" 1486, sv "ahead" 1487, sv "seq" 1488, sv "octets" 1489, sv "has_push" 1490, sv "has_fin" 1491, sv "end" 1492] 0, #[]⟩
noncomputable def k930_8 (p : Program) (P : Params) : Obj := ⟨.type "tuple", none, .seq #[] 0, #[]⟩
noncomputable def k931_8 (p : Program) (P : Params) : Obj := fc (st p 71 none) "data_segments"
noncomputable def k932_8 (p : Program) (P : Params) : Obj := ⟨.type "code", none, .fields #[sv "data_segments" 1480, sv "data_segments" 1481, sv "/claim/cut.py" 1482, .int 594 0, .int 2 0, .int 0 0, .int 0 0, .int 3 0, .ref 927, .bool true, .int 181 0, .ref 928, .none, .ref 929, .ref 930, .ref 931, .int 1493 0, .int 594 0, sv "/claim/cut.py" 1494], #[]⟩
noncomputable def k933_8 (p : Program) (P : Params) : Obj := fo (st p 71 none) "data_segments" (.none) (sv "thinstack.tcp_user" 1435) (.ref 932)
noncomputable def k934_8 (p : Program) (P : Params) : Obj := ⟨.type "tuple", none, .seq #[] 0, #[]⟩
noncomputable def k935_8 (p : Program) (P : Params) : Obj := ⟨.none, none, .fields #[], #[]⟩
noncomputable def k936_8 (p : Program) (P : Params) : Obj := ⟨.type "tuple", none, .seq #[sv "tcb" 1499, sv "now" 1500, sv "found" 1501] 0, #[]⟩
noncomputable def k937_8 (p : Program) (P : Params) : Obj := ⟨.type "tuple", none, .seq #[] 0, #[]⟩
noncomputable def k938_8 (p : Program) (P : Params) : Obj := fc (st p 72 none) "output"
noncomputable def k939_8 (p : Program) (P : Params) : Obj := ⟨.type "code", none, .fields #[sv "output" 1496, sv "output" 1497, sv "/claim/cut.py" 1498, .int 604 0, .int 2 0, .int 0 0, .int 0 0, .int 3 0, .ref 934, .bool true, .int 181 0, .ref 935, .none, .ref 936, .ref 937, .ref 938, .int 1502 0, .int 604 0, sv "/claim/cut.py" 1503], #[]⟩
noncomputable def k940_8 (p : Program) (P : Params) : Obj := fo (st p 72 none) "output" (.none) (sv "thinstack.tcp_user" 1435) (.ref 939)
noncomputable def k941_8 (p : Program) (P : Params) : Obj := ⟨.type "tuple", none, .seq #[] 0, #[]⟩
noncomputable def k942_8 (p : Program) (P : Params) : Obj := ⟨.none, none, .fields #[], #[]⟩
noncomputable def k943_8 (p : Program) (P : Params) : Obj := ⟨.type "tuple", none, .seq #[sv "tcb" 1508, sv "now" 1509] 0, #[]⟩
noncomputable def k944_8 (p : Program) (P : Params) : Obj := ⟨.type "tuple", none, .seq #[] 0, #[]⟩
noncomputable def k945_8 (p : Program) (P : Params) : Obj := fc (st p 73 none) "set_resend"
noncomputable def k946_8 (p : Program) (P : Params) : Obj := ⟨.type "code", none, .fields #[sv "set_resend" 1505, sv "set_resend" 1506, sv "/claim/cut.py" 1507, .int 615 0, .int 2 0, .int 0 0, .int 0 0, .int 3 0, .ref 941, .bool true, .int 181 0, .ref 942, .none, .ref 943, .ref 944, .ref 945, .int 1510 0, .int 615 0, sv "/claim/cut.py" 1511], #[]⟩
noncomputable def k947_8 (p : Program) (P : Params) : Obj := fo (st p 73 none) "set_resend" (.none) (sv "thinstack.tcp_user" 1435) (.ref 946)
noncomputable def k948_8 (p : Program) (P : Params) : Obj := ⟨.type "tuple", none, .seq #[] 0, #[]⟩
noncomputable def k949_8 (p : Program) (P : Params) : Obj := ⟨.none, none, .fields #[], #[]⟩
noncomputable def k950_8 (p : Program) (P : Params) : Obj := ⟨.type "tuple", none, .seq #[sv "tcb" 1516, sv "now" 1517] 0, #[]⟩
noncomputable def k951_8 (p : Program) (P : Params) : Obj := ⟨.type "tuple", none, .seq #[] 0, #[]⟩
noncomputable def k952_8 (p : Program) (P : Params) : Obj := fc (st p 74 none) "keep_timers"
noncomputable def k953_8 (p : Program) (P : Params) : Obj := ⟨.type "code", none, .fields #[sv "keep_timers" 1513, sv "keep_timers" 1514, sv "/claim/cut.py" 1515, .int 620 0, .int 2 0, .int 0 0, .int 0 0, .int 3 0, .ref 948, .bool true, .int 181 0, .ref 949, .none, .ref 950, .ref 951, .ref 952, .int 1518 0, .int 620 0, sv "/claim/cut.py" 1519], #[]⟩
noncomputable def k954_8 (p : Program) (P : Params) : Obj := fo (st p 74 none) "keep_timers" (.none) (sv "thinstack.tcp_user" 1435) (.ref 953)
noncomputable def k955_8 (p : Program) (P : Params) : Obj := ⟨.type "tuple", none, .seq #[] 0, #[]⟩
noncomputable def k956_8 (p : Program) (P : Params) : Obj := ⟨.none, none, .fields #[], #[]⟩
noncomputable def k957_8 (p : Program) (P : Params) : Obj := ⟨.type "tuple", none, .seq #[sv "tcb" 1524, sv "estimate" 1525] 0, #[]⟩
noncomputable def k958_8 (p : Program) (P : Params) : Obj := ⟨.type "tuple", none, .seq #[] 0, #[]⟩
noncomputable def k959_8 (p : Program) (P : Params) : Obj := fc (st p 75 none) "probe_wait"
noncomputable def k960_8 (p : Program) (P : Params) : Obj := ⟨.type "code", none, .fields #[sv "probe_wait" 1521, sv "probe_wait" 1522, sv "/claim/cut.py" 1523, .int 632 0, .int 1 0, .int 0 0, .int 0 0, .int 3 0, .ref 955, .bool true, .int 181 0, .ref 956, .none, .ref 957, .ref 958, .ref 959, .int 1526 0, .int 632 0, sv "/claim/cut.py" 1527], #[]⟩
noncomputable def k961_8 (p : Program) (P : Params) : Obj := fo (st p 75 none) "probe_wait" (.none) (sv "thinstack.tcp_user" 1435) (.ref 960)
noncomputable def k962_8 (p : Program) (P : Params) : Obj := ⟨.type "tuple", none, .seq #[] 0, #[]⟩
noncomputable def k963_8 (p : Program) (P : Params) : Obj := ⟨.none, none, .fields #[], #[]⟩
noncomputable def k964_8 (p : Program) (P : Params) : Obj := ⟨.type "tuple", none, .seq #[sv "script" 1534, sv "k" 1535, sv "cell" 1536, sv "great" 1537, sv "mixed" 1538] 0, #[]⟩
noncomputable def k965_8 (p : Program) (P : Params) : Obj := ⟨.type "tuple", none, .seq #[] 0, #[]⟩
noncomputable def k966_8 (p : Program) (P : Params) : Obj := fc (st p 77 none) "_law_pool"
noncomputable def k967_8 (p : Program) (P : Params) : Obj := ⟨.type "code", none, .fields #[sv "_law_pool" 1531, sv "_law_pool" 1532, sv "/claim/cut.py" 1533, .int 636 0, .int 2 0, .int 0 0, .int 0 0, .int 3 0, .ref 962, .bool true, .int 181 0, .ref 963, .none, .ref 964, .ref 965, .ref 966, .int 1539 0, .int 636 0, sv "/claim/cut.py" 1540], #[]⟩
noncomputable def k968_8 (p : Program) (P : Params) : Obj := fo (st p 77 none) "_law_pool" (.none) (sv "law_xw0342_01" 1529) (.ref 967)
noncomputable def k969_8 (p : Program) (P : Params) : Obj := ⟨.type "tuple", none, .seq #[] 0, #[]⟩
noncomputable def k970_8 (p : Program) (P : Params) : Obj := ⟨.none, none, .fields #[], #[]⟩
noncomputable def k971_8 (p : Program) (P : Params) : Obj := ⟨.type "tuple", none, .seq #[sv "source" 1545, sv "top" 1546, sv "drawn" 1547] 0, #[]⟩
noncomputable def k972_8 (p : Program) (P : Params) : Obj := ⟨.type "tuple", none, .seq #[] 0, #[]⟩
noncomputable def k973_8 (p : Program) (P : Params) : Obj := fc (st p 78 none) "_law_take"
noncomputable def k974_8 (p : Program) (P : Params) : Obj := ⟨.type "code", none, .fields #[sv "_law_take" 1542, sv "_law_take" 1543, sv "/claim/cut.py" 1544, .int 641 0, .int 2 0, .int 0 0, .int 0 0, .int 3 0, .ref 969, .bool true, .int 181 0, .ref 970, .none, .ref 971, .ref 972, .ref 973, .int 1548 0, .int 641 0, sv "/claim/cut.py" 1549], #[]⟩
noncomputable def k975_8 (p : Program) (P : Params) : Obj := fo (st p 78 none) "_law_take" (.none) (sv "law_xw0342_01" 1529) (.ref 974)
noncomputable def k976_8 (p : Program) (P : Params) : Obj := ⟨.type "tuple", none, .seq #[] 0, #[]⟩
noncomputable def k977_8 (p : Program) (P : Params) : Obj := ⟨.none, none, .fields #[], #[]⟩
noncomputable def k978_8 (p : Program) (P : Params) : Obj := ⟨.type "tuple", none, .seq #[sv "source" 1554, sv "things" 1555] 0, #[]⟩
noncomputable def k979_8 (p : Program) (P : Params) : Obj := ⟨.type "tuple", none, .seq #[] 0, #[]⟩
noncomputable def k980_8 (p : Program) (P : Params) : Obj := fc (st p 79 none) "_law_one"
noncomputable def k981_8 (p : Program) (P : Params) : Obj := ⟨.type "code", none, .fields #[sv "_law_one" 1551, sv "_law_one" 1552, sv "/claim/cut.py" 1553, .int 648 0, .int 2 0, .int 0 0, .int 0 0, .int 3 0, .ref 976, .bool true, .int 181 0, .ref 977, .none, .ref 978, .ref 979, .ref 980, .int 1556 0, .int 648 0, sv "/claim/cut.py" 1557], #[]⟩
noncomputable def k982_8 (p : Program) (P : Params) : Obj := fo (st p 79 none) "_law_one" (.none) (sv "law_xw0342_01" 1529) (.ref 981)
noncomputable def k983_8 (p : Program) (P : Params) : Obj := ⟨.type "tuple", none, .seq #[] 0, #[]⟩
noncomputable def k984_8 (p : Program) (P : Params) : Obj := ⟨.none, none, .fields #[], #[]⟩
noncomputable def k985_8 (p : Program) (P : Params) : Obj := fc (st p 80 none) "_law_told"
noncomputable def k986_8 (p : Program) (P : Params) : Obj := ⟨.type "code", none, .fields #[sv "_law_told" 1559, sv "_law_told" 1560, sv "/claim/cut.py" 1561, .int 650 0, .int 1 0, .int 0 0, .int 0 0, .int 3 0, .ref 983, .bool true, .int 181 0, .ref 984, .none, .none, .none, .ref 985, .int 1562 0, .int 650 0, sv "/claim/cut.py" 1563], #[]⟩
noncomputable def k987_8 (p : Program) (P : Params) : Obj := fo (st p 80 none) "_law_told" (.none) (sv "law_xw0342_01" 1529) (.ref 986)
noncomputable def k988_8 (p : Program) (P : Params) : Obj := ⟨.type "tuple", none, .seq #[] 0, #[]⟩
noncomputable def k989_8 (p : Program) (P : Params) : Obj := ⟨.none, none, .fields #[], #[]⟩
noncomputable def k990_8 (p : Program) (P : Params) : Obj := ⟨.type "tuple", none, .seq #[sv "bounds" 1568, sv "measured" 1569, sv "tries" 1570, sv "first" 1571, sv "least" 1572, sv "most" 1573, sv "wait" 1574, sv "turn" 1575] 0, #[]⟩
noncomputable def k991_8 (p : Program) (P : Params) : Obj := ⟨.type "tuple", none, .seq #[] 0, #[]⟩
noncomputable def k992_8 (p : Program) (P : Params) : Obj := fc (st p 81 none) "_law_wait"
noncomputable def k993_8 (p : Program) (P : Params) : Obj := ⟨.type "code", none, .fields #[sv "_law_wait" 1565, sv "_law_wait" 1566, sv "/claim/cut.py" 1567, .int 652 0, .int 3 0, .int 0 0, .int 0 0, .int 3 0, .ref 988, .bool true, .int 181 0, .ref 989, .none, .ref 990, .ref 991, .ref 992, .int 1576 0, .int 652 0, sv "/claim/cut.py" 1577], #[]⟩
noncomputable def k994_8 (p : Program) (P : Params) : Obj := fo (st p 81 none) "_law_wait" (.none) (sv "law_xw0342_01" 1529) (.ref 993)
noncomputable def k995_8 (p : Program) (P : Params) : Obj := ⟨.type "tuple", none, .seq #[] 0, #[]⟩
noncomputable def k996_8 (p : Program) (P : Params) : Obj := ⟨.none, none, .fields #[], #[]⟩
noncomputable def k997_8 (p : Program) (P : Params) : Obj := ⟨.type "tuple", none, .seq #[sv "bounds" 1582, sv "measured" 1583, sv "tries" 1584, sv "times" 1585, sv "now" 1586, sv "tcb" 1587, sv "key" 1588, sv "time" 1589, sv "turn" 1590] 0, #[]⟩
noncomputable def k998_8 (p : Program) (P : Params) : Obj := ⟨.type "tuple", none, .seq #[] 0, #[]⟩
noncomputable def k999_8 (p : Program) (P : Params) : Obj := fc (st p 82 none) "_law_right"
noncomputable def k1000_8 (p : Program) (P : Params) : Obj := ⟨.type "code", none, .fields #[sv "_law_right" 1579, sv "_law_right" 1580, sv "/claim/cut.py" 1581, .int 659 0, .int 5 0, .int 0 0, .int 0 0, .int 3 0, .ref 995, .bool true, .int 181 0, .ref 996, .none, .ref 997, .ref 998, .ref 999, .int 1591 0, .int 659 0, sv "/claim/cut.py" 1592], #[]⟩
noncomputable def k1001_8 (p : Program) (P : Params) : Obj := fo (st p 82 none) "_law_right" (.none) (sv "law_xw0342_01" 1529) (.ref 1000)
noncomputable def k1002_8 (p : Program) (P : Params) : Obj := ⟨.type "tuple", none, .seq #[] 0, #[]⟩
noncomputable def k1003_8 (p : Program) (P : Params) : Obj := ⟨.none, none, .fields #[], #[]⟩
noncomputable def k1004_8 (p : Program) (P : Params) : Obj := fc (st p 83 none) "law"
noncomputable def k1005_8 (p : Program) (P : Params) : Obj := ⟨.type "code", none, .fields #[sv "law" 1594, sv "law" 1595, sv "/claim/cut.py" 1596, .int 678 0, .int 1 0, .int 0 0, .int 0 0, .int 3 0, .ref 1002, .bool true, .int 181 0, .ref 1003, .none, .none, .none, .ref 1004, .int 1597 0, .int 678 0, sv "/claim/cut.py" 1598], #[]⟩
noncomputable def k1006_8 (p : Program) (P : Params) : Obj := fo (st p 83 none) "law" (.none) (sv "law_xw0342_01" 1529) (.ref 1005)
noncomputable def T8 (p : Program) (P : Params) : BT := (.node (k0_0 p P) (.node (k1_1 p P) (.node (k3_8 p P) (.node (k7_1 p P) (.node (k15_1 p P) (.node (k31_1 p P) (.node (k63_1 p P) (.node (k127_2 p P) (.node (k255_3 p P) (.node (k511_5 p P) .nil .nil) (.node (k767_7 p P) .nil .nil)) (.node (k383_4 p P) (.node (k639_5 p P) .nil .nil) (.node (k895_8 p P) .nil .nil))) (.node (k191_2 p P) (.node (k319_3 p P) (.node (k575_5 p P) .nil .nil) (.node (k831_7 p P) .nil .nil)) (.node (k447_4 p P) (.node (k703_6 p P) .nil .nil) (.node (k959_8 p P) .nil .nil)))) (.node (k95_1 p P) (.node (k159_2 p P) (.node (k287_3 p P) (.node (k543_5 p P) .nil .nil) (.node (k799_7 p P) .nil .nil)) (.node (k415_4 p P) (.node (k671_6 p P) .nil .nil) (.node (k927_8 p P) .nil .nil))) (.node (k223_2 p P) (.node (k351_3 p P) (.node (k607_5 p P) .nil .nil) (.node (k863_7 p P) .nil .nil)) (.node (k479_4 p P) (.node (k735_6 p P) .nil .nil) (.node (k991_8 p P) .nil .nil))))) (.node (k47_1 p P) (.node (k79_1 p P) (.node (k143_2 p P) (.node (k271_3 p P) (.node (k527_5 p P) .nil .nil) (.node (k783_7 p P) .nil .nil)) (.node (k399_4 p P) (.node (k655_5 p P) .nil .nil) (.node (k911_8 p P) .nil .nil))) (.node (k207_2 p P) (.node (k335_3 p P) (.node (k591_5 p P) .nil .nil) (.node (k847_7 p P) .nil .nil)) (.node (k463_4 p P) (.node (k719_6 p P) .nil .nil) (.node (k975_8 p P) .nil .nil)))) (.node (k111_2 p P) (.node (k175_2 p P) (.node (k303_3 p P) (.node (k559_5 p P) .nil .nil) (.node (k815_7 p P) .nil .nil)) (.node (k431_4 p P) (.node (k687_6 p P) .nil .nil) (.node (k943_8 p P) .nil .nil))) (.node (k239_2 p P) (.node (k367_3 p P) (.node (k623_5 p P) .nil .nil) (.node (k879_7 p P) .nil .nil)) (.node (k495_5 p P) (.node (k751_6 p P) .nil .nil) .nil))))) (.node (k23_1 p P) (.node (k39_1 p P) (.node (k71_1 p P) (.node (k135_2 p P) (.node (k263_3 p P) (.node (k519_5 p P) .nil .nil) (.node (k775_7 p P) .nil .nil)) (.node (k391_4 p P) (.node (k647_5 p P) .nil .nil) (.node (k903_8 p P) .nil .nil))) (.node (k199_2 p P) (.node (k327_3 p P) (.node (k583_5 p P) .nil .nil) (.node (k839_7 p P) .nil .nil)) (.node (k455_4 p P) (.node (k711_6 p P) .nil .nil) (.node (k967_8 p P) .nil .nil)))) (.node (k103_2 p P) (.node (k167_2 p P) (.node (k295_3 p P) (.node (k551_5 p P) .nil .nil) (.node (k807_7 p P) .nil .nil)) (.node (k423_4 p P) (.node (k679_6 p P) .nil .nil) (.node (k935_8 p P) .nil .nil))) (.node (k231_2 p P) (.node (k359_3 p P) (.node (k615_5 p P) .nil .nil) (.node (k871_7 p P) .nil .nil)) (.node (k487_5 p P) (.node (k743_6 p P) .nil .nil) (.node (k999_8 p P) .nil .nil))))) (.node (k55_1 p P) (.node (k87_1 p P) (.node (k151_2 p P) (.node (k279_3 p P) (.node (k535_5 p P) .nil .nil) (.node (k791_7 p P) .nil .nil)) (.node (k407_4 p P) (.node (k663_5 p P) .nil .nil) (.node (k919_8 p P) .nil .nil))) (.node (k215_2 p P) (.node (k343_3 p P) (.node (k599_5 p P) .nil .nil) (.node (k855_7 p P) .nil .nil)) (.node (k471_4 p P) (.node (k727_6 p P) .nil .nil) (.node (k983_8 p P) .nil .nil)))) (.node (k119_2 p P) (.node (k183_2 p P) (.node (k311_3 p P) (.node (k567_5 p P) .nil .nil) (.node (k823_7 p P) .nil .nil)) (.node (k439_4 p P) (.node (k695_6 p P) .nil .nil) (.node (k951_8 p P) .nil .nil))) (.node (k247_2 p P) (.node (k375_3 p P) (.node (k631_5 p P) .nil .nil) (.node (k887_7 p P) .nil .nil)) (.node (k503_5 p P) (.node (k759_6 p P) .nil .nil) .nil)))))) (.node (k11_0 p P) (.node (k19_1 p P) (.node (k35_1 p P) (.node (k67_1 p P) (.node (k131_2 p P) (.node (k259_3 p P) (.node (k515_5 p P) .nil .nil) (.node (k771_7 p P) .nil .nil)) (.node (k387_4 p P) (.node (k643_5 p P) .nil .nil) (.node (k899_8 p P) .nil .nil))) (.node (k195_2 p P) (.node (k323_3 p P) (.node (k579_5 p P) .nil .nil) (.node (k835_7 p P) .nil .nil)) (.node (k451_4 p P) (.node (k707_6 p P) .nil .nil) (.node (k963_8 p P) .nil .nil)))) (.node (k99_1 p P) (.node (k163_2 p P) (.node (k291_3 p P) (.node (k547_5 p P) .nil .nil) (.node (k803_7 p P) .nil .nil)) (.node (k419_4 p P) (.node (k675_6 p P) .nil .nil) (.node (k931_8 p P) .nil .nil))) (.node (k227_2 p P) (.node (k355_3 p P) (.node (k611_5 p P) .nil .nil) (.node (k867_7 p P) .nil .nil)) (.node (k483_5 p P) (.node (k739_6 p P) .nil .nil) (.node (k995_8 p P) .nil .nil))))) (.node (k51_1 p P) (.node (k83_1 p P) (.node (k147_2 p P) (.node (k275_3 p P) (.node (k531_5 p P) .nil .nil) (.node (k787_7 p P) .nil .nil)) (.node (k403_4 p P) (.node (k659_5 p P) .nil .nil) (.node (k915_8 p P) .nil .nil))) (.node (k211_2 p P) (.node (k339_3 p P) (.node (k595_5 p P) .nil .nil) (.node (k851_7 p P) .nil .nil)) (.node (k467_4 p P) (.node (k723_6 p P) .nil .nil) (.node (k979_8 p P) .nil .nil)))) (.node (k115_2 p P) (.node (k179_2 p P) (.node (k307_3 p P) (.node (k563_5 p P) .nil .nil) (.node (k819_7 p P) .nil .nil)) (.node (k435_4 p P) (.node (k691_6 p P) .nil .nil) (.node (k947_8 p P) .nil .nil))) (.node (k243_2 p P) (.node (k371_3 p P) (.node (k627_5 p P) .nil .nil) (.node (k883_7 p P) .nil .nil)) (.node (k499_5 p P) (.node (k755_6 p P) .nil .nil) .nil))))) (.node (k27_1 p P) (.node (k43_1 p P) (.node (k75_1 p P) (.node (k139_2 p P) (.node (k267_3 p P) (.node (k523_5 p P) .nil .nil) (.node (k779_7 p P) .nil .nil)) (.node (k395_4 p P) (.node (k651_5 p P) .nil .nil) (.node (k907_8 p P) .nil .nil))) (.node (k203_2 p P) (.node (k331_3 p P) (.node (k587_5 p P) .nil .nil) (.node (k843_7 p P) .nil .nil)) (.node (k459_4 p P) (.node (k715_6 p P) .nil .nil) (.node (k971_8 p P) .nil .nil)))) (.node (k107_2 p P) (.node (k171_2 p P) (.node (k299_3 p P) (.node (k555_5 p P) .nil .nil) (.node (k811_7 p P) .nil .nil)) (.node (k427_4 p P) (.node (k683_6 p P) .nil .nil) (.node (k939_8 p P) .nil .nil))) (.node (k235_2 p P) (.node (k363_3 p P) (.node (k619_5 p P) .nil .nil) (.node (k875_7 p P) .nil .nil)) (.node (k491_5 p P) (.node (k747_6 p P) .nil .nil) (.node (k1003_8 p P) .nil .nil))))) (.node (k59_1 p P) (.node (k91_1 p P) (.node (k155_2 p P) (.node (k283_3 p P) (.node (k539_5 p P) .nil .nil) (.node (k795_7 p P) .nil .nil)) (.node (k411_4 p P) (.node (k667_5 p P) .nil .nil) (.node (k923_8 p P) .nil .nil))) (.node (k219_2 p P) (.node (k347_3 p P) (.node (k603_5 p P) .nil .nil) (.node (k859_7 p P) .nil .nil)) (.node (k475_4 p P) (.node (k731_6 p P) .nil .nil) (.node (k987_8 p P) .nil .nil)))) (.node (k123_2 p P) (.node (k187_2 p P) (.node (k315_3 p P) (.node (k571_5 p P) .nil .nil) (.node (k827_7 p P) .nil .nil)) (.node (k443_4 p P) (.node (k699_6 p P) .nil .nil) (.node (k955_8 p P) .nil .nil))) (.node (k251_3 p P) (.node (k379_3 p P) (.node (k635_5 p P) .nil .nil) (.node (k891_7 p P) .nil .nil)) (.node (k507_5 p P) (.node (k763_7 p P) .nil .nil) .nil))))))) (.node (k5_1 p P) (.node (k9_1 p P) (.node (k17_1 p P) (.node (k33_1 p P) (.node (k65_1 p P) (.node (k129_2 p P) (.node (k257_3 p P) (.node (k513_5 p P) .nil .nil) (.node (k769_7 p P) .nil .nil)) (.node (k385_4 p P) (.node (k641_5 p P) .nil .nil) (.node (k897_8 p P) .nil .nil))) (.node (k193_2 p P) (.node (k321_3 p P) (.node (k577_5 p P) .nil .nil) (.node (k833_7 p P) .nil .nil)) (.node (k449_4 p P) (.node (k705_6 p P) .nil .nil) (.node (k961_8 p P) .nil .nil)))) (.node (k97_1 p P) (.node (k161_2 p P) (.node (k289_3 p P) (.node (k545_5 p P) .nil .nil) (.node (k801_7 p P) .nil .nil)) (.node (k417_4 p P) (.node (k673_6 p P) .nil .nil) (.node (k929_8 p P) .nil .nil))) (.node (k225_2 p P) (.node (k353_3 p P) (.node (k609_5 p P) .nil .nil) (.node (k865_7 p P) .nil .nil)) (.node (k481_5 p P) (.node (k737_6 p P) .nil .nil) (.node (k993_8 p P) .nil .nil))))) (.node (k49_1 p P) (.node (k81_1 p P) (.node (k145_2 p P) (.node (k273_3 p P) (.node (k529_5 p P) .nil .nil) (.node (k785_7 p P) .nil .nil)) (.node (k401_4 p P) (.node (k657_5 p P) .nil .nil) (.node (k913_8 p P) .nil .nil))) (.node (k209_2 p P) (.node (k337_3 p P) (.node (k593_5 p P) .nil .nil) (.node (k849_7 p P) .nil .nil)) (.node (k465_4 p P) (.node (k721_6 p P) .nil .nil) (.node (k977_8 p P) .nil .nil)))) (.node (k113_2 p P) (.node (k177_2 p P) (.node (k305_3 p P) (.node (k561_5 p P) .nil .nil) (.node (k817_7 p P) .nil .nil)) (.node (k433_4 p P) (.node (k689_6 p P) .nil .nil) (.node (k945_8 p P) .nil .nil))) (.node (k241_2 p P) (.node (k369_3 p P) (.node (k625_5 p P) .nil .nil) (.node (k881_7 p P) .nil .nil)) (.node (k497_5 p P) (.node (k753_6 p P) .nil .nil) .nil))))) (.node (k25_1 p P) (.node (k41_1 p P) (.node (k73_1 p P) (.node (k137_2 p P) (.node (k265_3 p P) (.node (k521_5 p P) .nil .nil) (.node (k777_7 p P) .nil .nil)) (.node (k393_4 p P) (.node (k649_5 p P) .nil .nil) (.node (k905_8 p P) .nil .nil))) (.node (k201_2 p P) (.node (k329_3 p P) (.node (k585_5 p P) .nil .nil) (.node (k841_7 p P) .nil .nil)) (.node (k457_4 p P) (.node (k713_6 p P) .nil .nil) (.node (k969_8 p P) .nil .nil)))) (.node (k105_2 p P) (.node (k169_2 p P) (.node (k297_3 p P) (.node (k553_5 p P) .nil .nil) (.node (k809_7 p P) .nil .nil)) (.node (k425_4 p P) (.node (k681_6 p P) .nil .nil) (.node (k937_8 p P) .nil .nil))) (.node (k233_2 p P) (.node (k361_3 p P) (.node (k617_5 p P) .nil .nil) (.node (k873_7 p P) .nil .nil)) (.node (k489_5 p P) (.node (k745_6 p P) .nil .nil) (.node (k1001_8 p P) .nil .nil))))) (.node (k57_1 p P) (.node (k89_1 p P) (.node (k153_2 p P) (.node (k281_3 p P) (.node (k537_5 p P) .nil .nil) (.node (k793_7 p P) .nil .nil)) (.node (k409_4 p P) (.node (k665_5 p P) .nil .nil) (.node (k921_8 p P) .nil .nil))) (.node (k217_2 p P) (.node (k345_3 p P) (.node (k601_5 p P) .nil .nil) (.node (k857_7 p P) .nil .nil)) (.node (k473_4 p P) (.node (k729_6 p P) .nil .nil) (.node (k985_8 p P) .nil .nil)))) (.node (k121_2 p P) (.node (k185_2 p P) (.node (k313_3 p P) (.node (k569_5 p P) .nil .nil) (.node (k825_7 p P) .nil .nil)) (.node (k441_4 p P) (.node (k697_6 p P) .nil .nil) (.node (k953_8 p P) .nil .nil))) (.node (k249_3 p P) (.node (k377_3 p P) (.node (k633_5 p P) .nil .nil) (.node (k889_7 p P) .nil .nil)) (.node (k505_5 p P) (.node (k761_6 p P) .nil .nil) .nil)))))) (.node (k13_0 p P) (.node (k21_1 p P) (.node (k37_1 p P) (.node (k69_1 p P) (.node (k133_2 p P) (.node (k261_3 p P) (.node (k517_5 p P) .nil .nil) (.node (k773_7 p P) .nil .nil)) (.node (k389_4 p P) (.node (k645_5 p P) .nil .nil) (.node (k901_8 p P) .nil .nil))) (.node (k197_2 p P) (.node (k325_3 p P) (.node (k581_5 p P) .nil .nil) (.node (k837_7 p P) .nil .nil)) (.node (k453_4 p P) (.node (k709_6 p P) .nil .nil) (.node (k965_8 p P) .nil .nil)))) (.node (k101_2 p P) (.node (k165_2 p P) (.node (k293_3 p P) (.node (k549_5 p P) .nil .nil) (.node (k805_7 p P) .nil .nil)) (.node (k421_4 p P) (.node (k677_6 p P) .nil .nil) (.node (k933_8 p P) .nil .nil))) (.node (k229_2 p P) (.node (k357_3 p P) (.node (k613_5 p P) .nil .nil) (.node (k869_7 p P) .nil .nil)) (.node (k485_5 p P) (.node (k741_6 p P) .nil .nil) (.node (k997_8 p P) .nil .nil))))) (.node (k53_1 p P) (.node (k85_1 p P) (.node (k149_2 p P) (.node (k277_3 p P) (.node (k533_5 p P) .nil .nil) (.node (k789_7 p P) .nil .nil)) (.node (k405_4 p P) (.node (k661_5 p P) .nil .nil) (.node (k917_8 p P) .nil .nil))) (.node (k213_2 p P) (.node (k341_3 p P) (.node (k597_5 p P) .nil .nil) (.node (k853_7 p P) .nil .nil)) (.node (k469_4 p P) (.node (k725_6 p P) .nil .nil) (.node (k981_8 p P) .nil .nil)))) (.node (k117_2 p P) (.node (k181_2 p P) (.node (k309_3 p P) (.node (k565_5 p P) .nil .nil) (.node (k821_7 p P) .nil .nil)) (.node (k437_4 p P) (.node (k693_6 p P) .nil .nil) (.node (k949_8 p P) .nil .nil))) (.node (k245_2 p P) (.node (k373_3 p P) (.node (k629_5 p P) .nil .nil) (.node (k885_7 p P) .nil .nil)) (.node (k501_5 p P) (.node (k757_6 p P) .nil .nil) .nil))))) (.node (k29_1 p P) (.node (k45_1 p P) (.node (k77_1 p P) (.node (k141_2 p P) (.node (k269_3 p P) (.node (k525_5 p P) .nil .nil) (.node (k781_7 p P) .nil .nil)) (.node (k397_4 p P) (.node (k653_5 p P) .nil .nil) (.node (k909_8 p P) .nil .nil))) (.node (k205_2 p P) (.node (k333_3 p P) (.node (k589_5 p P) .nil .nil) (.node (k845_7 p P) .nil .nil)) (.node (k461_4 p P) (.node (k717_6 p P) .nil .nil) (.node (k973_8 p P) .nil .nil)))) (.node (k109_2 p P) (.node (k173_2 p P) (.node (k301_3 p P) (.node (k557_5 p P) .nil .nil) (.node (k813_7 p P) .nil .nil)) (.node (k429_4 p P) (.node (k685_6 p P) .nil .nil) (.node (k941_8 p P) .nil .nil))) (.node (k237_2 p P) (.node (k365_3 p P) (.node (k621_5 p P) .nil .nil) (.node (k877_7 p P) .nil .nil)) (.node (k493_5 p P) (.node (k749_6 p P) .nil .nil) (.node (k1005_8 p P) .nil .nil))))) (.node (k61_1 p P) (.node (k93_1 p P) (.node (k157_2 p P) (.node (k285_3 p P) (.node (k541_5 p P) .nil .nil) (.node (k797_7 p P) .nil .nil)) (.node (k413_4 p P) (.node (k669_5 p P) .nil .nil) (.node (k925_8 p P) .nil .nil))) (.node (k221_2 p P) (.node (k349_3 p P) (.node (k605_5 p P) .nil .nil) (.node (k861_7 p P) .nil .nil)) (.node (k477_4 p P) (.node (k733_6 p P) .nil .nil) (.node (k989_8 p P) .nil .nil)))) (.node (k125_2 p P) (.node (k189_2 p P) (.node (k317_3 p P) (.node (k573_5 p P) .nil .nil) (.node (k829_7 p P) .nil .nil)) (.node (k445_4 p P) (.node (k701_6 p P) .nil .nil) (.node (k957_8 p P) .nil .nil))) (.node (k253_3 p P) (.node (k381_3 p P) (.node (k637_5 p P) .nil .nil) (.node (k893_8 p P) .nil .nil)) (.node (k509_5 p P) (.node (k765_7 p P) .nil .nil) .nil)))))))) (.node (k2_1 p P) (.node (k4_1 p P) (.node (k8_1 p P) (.node (k16_1 p P) (.node (k32_1 p P) (.node (k64_1 p P) (.node (k128_2 p P) (.node (k256_3 p P) (.node (k512_5 p P) .nil .nil) (.node (k768_7 p P) .nil .nil)) (.node (k384_4 p P) (.node (k640_5 p P) .nil .nil) (.node (k896_8 p P) .nil .nil))) (.node (k192_2 p P) (.node (k320_3 p P) (.node (k576_5 p P) .nil .nil) (.node (k832_7 p P) .nil .nil)) (.node (k448_4 p P) (.node (k704_6 p P) .nil .nil) (.node (k960_8 p P) .nil .nil)))) (.node (k96_1 p P) (.node (k160_2 p P) (.node (k288_3 p P) (.node (k544_5 p P) .nil .nil) (.node (k800_7 p P) .nil .nil)) (.node (k416_4 p P) (.node (k672_6 p P) .nil .nil) (.node (k928_8 p P) .nil .nil))) (.node (k224_2 p P) (.node (k352_3 p P) (.node (k608_5 p P) .nil .nil) (.node (k864_7 p P) .nil .nil)) (.node (k480_5 p P) (.node (k736_6 p P) .nil .nil) (.node (k992_8 p P) .nil .nil))))) (.node (k48_1 p P) (.node (k80_1 p P) (.node (k144_2 p P) (.node (k272_3 p P) (.node (k528_5 p P) .nil .nil) (.node (k784_7 p P) .nil .nil)) (.node (k400_4 p P) (.node (k656_5 p P) .nil .nil) (.node (k912_8 p P) .nil .nil))) (.node (k208_2 p P) (.node (k336_3 p P) (.node (k592_5 p P) .nil .nil) (.node (k848_7 p P) .nil .nil)) (.node (k464_4 p P) (.node (k720_6 p P) .nil .nil) (.node (k976_8 p P) .nil .nil)))) (.node (k112_2 p P) (.node (k176_2 p P) (.node (k304_3 p P) (.node (k560_5 p P) .nil .nil) (.node (k816_7 p P) .nil .nil)) (.node (k432_4 p P) (.node (k688_6 p P) .nil .nil) (.node (k944_8 p P) .nil .nil))) (.node (k240_2 p P) (.node (k368_3 p P) (.node (k624_5 p P) .nil .nil) (.node (k880_7 p P) .nil .nil)) (.node (k496_5 p P) (.node (k752_6 p P) .nil .nil) .nil))))) (.node (k24_1 p P) (.node (k40_1 p P) (.node (k72_1 p P) (.node (k136_2 p P) (.node (k264_3 p P) (.node (k520_5 p P) .nil .nil) (.node (k776_7 p P) .nil .nil)) (.node (k392_4 p P) (.node (k648_5 p P) .nil .nil) (.node (k904_8 p P) .nil .nil))) (.node (k200_2 p P) (.node (k328_3 p P) (.node (k584_5 p P) .nil .nil) (.node (k840_7 p P) .nil .nil)) (.node (k456_4 p P) (.node (k712_6 p P) .nil .nil) (.node (k968_8 p P) .nil .nil)))) (.node (k104_2 p P) (.node (k168_2 p P) (.node (k296_3 p P) (.node (k552_5 p P) .nil .nil) (.node (k808_7 p P) .nil .nil)) (.node (k424_4 p P) (.node (k680_6 p P) .nil .nil) (.node (k936_8 p P) .nil .nil))) (.node (k232_2 p P) (.node (k360_3 p P) (.node (k616_5 p P) .nil .nil) (.node (k872_7 p P) .nil .nil)) (.node (k488_5 p P) (.node (k744_6 p P) .nil .nil) (.node (k1000_8 p P) .nil .nil))))) (.node (k56_1 p P) (.node (k88_1 p P) (.node (k152_2 p P) (.node (k280_3 p P) (.node (k536_5 p P) .nil .nil) (.node (k792_7 p P) .nil .nil)) (.node (k408_4 p P) (.node (k664_5 p P) .nil .nil) (.node (k920_8 p P) .nil .nil))) (.node (k216_2 p P) (.node (k344_3 p P) (.node (k600_5 p P) .nil .nil) (.node (k856_7 p P) .nil .nil)) (.node (k472_4 p P) (.node (k728_6 p P) .nil .nil) (.node (k984_8 p P) .nil .nil)))) (.node (k120_2 p P) (.node (k184_2 p P) (.node (k312_3 p P) (.node (k568_5 p P) .nil .nil) (.node (k824_7 p P) .nil .nil)) (.node (k440_4 p P) (.node (k696_6 p P) .nil .nil) (.node (k952_8 p P) .nil .nil))) (.node (k248_2 p P) (.node (k376_3 p P) (.node (k632_5 p P) .nil .nil) (.node (k888_7 p P) .nil .nil)) (.node (k504_5 p P) (.node (k760_6 p P) .nil .nil) .nil)))))) (.node (k12_8 p P) (.node (k20_1 p P) (.node (k36_1 p P) (.node (k68_1 p P) (.node (k132_2 p P) (.node (k260_3 p P) (.node (k516_5 p P) .nil .nil) (.node (k772_7 p P) .nil .nil)) (.node (k388_4 p P) (.node (k644_5 p P) .nil .nil) (.node (k900_8 p P) .nil .nil))) (.node (k196_2 p P) (.node (k324_3 p P) (.node (k580_5 p P) .nil .nil) (.node (k836_7 p P) .nil .nil)) (.node (k452_4 p P) (.node (k708_6 p P) .nil .nil) (.node (k964_8 p P) .nil .nil)))) (.node (k100_1 p P) (.node (k164_2 p P) (.node (k292_3 p P) (.node (k548_5 p P) .nil .nil) (.node (k804_7 p P) .nil .nil)) (.node (k420_4 p P) (.node (k676_6 p P) .nil .nil) (.node (k932_8 p P) .nil .nil))) (.node (k228_2 p P) (.node (k356_3 p P) (.node (k612_5 p P) .nil .nil) (.node (k868_7 p P) .nil .nil)) (.node (k484_5 p P) (.node (k740_6 p P) .nil .nil) (.node (k996_8 p P) .nil .nil))))) (.node (k52_1 p P) (.node (k84_1 p P) (.node (k148_2 p P) (.node (k276_3 p P) (.node (k532_5 p P) .nil .nil) (.node (k788_7 p P) .nil .nil)) (.node (k404_4 p P) (.node (k660_5 p P) .nil .nil) (.node (k916_8 p P) .nil .nil))) (.node (k212_2 p P) (.node (k340_3 p P) (.node (k596_5 p P) .nil .nil) (.node (k852_7 p P) .nil .nil)) (.node (k468_4 p P) (.node (k724_6 p P) .nil .nil) (.node (k980_8 p P) .nil .nil)))) (.node (k116_2 p P) (.node (k180_2 p P) (.node (k308_3 p P) (.node (k564_5 p P) .nil .nil) (.node (k820_7 p P) .nil .nil)) (.node (k436_4 p P) (.node (k692_6 p P) .nil .nil) (.node (k948_8 p P) .nil .nil))) (.node (k244_2 p P) (.node (k372_3 p P) (.node (k628_5 p P) .nil .nil) (.node (k884_7 p P) .nil .nil)) (.node (k500_5 p P) (.node (k756_6 p P) .nil .nil) .nil))))) (.node (k28_1 p P) (.node (k44_1 p P) (.node (k76_1 p P) (.node (k140_2 p P) (.node (k268_3 p P) (.node (k524_5 p P) .nil .nil) (.node (k780_7 p P) .nil .nil)) (.node (k396_4 p P) (.node (k652_5 p P) .nil .nil) (.node (k908_8 p P) .nil .nil))) (.node (k204_2 p P) (.node (k332_3 p P) (.node (k588_5 p P) .nil .nil) (.node (k844_7 p P) .nil .nil)) (.node (k460_4 p P) (.node (k716_6 p P) .nil .nil) (.node (k972_8 p P) .nil .nil)))) (.node (k108_2 p P) (.node (k172_2 p P) (.node (k300_3 p P) (.node (k556_5 p P) .nil .nil) (.node (k812_7 p P) .nil .nil)) (.node (k428_4 p P) (.node (k684_6 p P) .nil .nil) (.node (k940_8 p P) .nil .nil))) (.node (k236_2 p P) (.node (k364_3 p P) (.node (k620_5 p P) .nil .nil) (.node (k876_7 p P) .nil .nil)) (.node (k492_5 p P) (.node (k748_6 p P) .nil .nil) (.node (k1004_8 p P) .nil .nil))))) (.node (k60_1 p P) (.node (k92_1 p P) (.node (k156_2 p P) (.node (k284_3 p P) (.node (k540_5 p P) .nil .nil) (.node (k796_7 p P) .nil .nil)) (.node (k412_4 p P) (.node (k668_5 p P) .nil .nil) (.node (k924_8 p P) .nil .nil))) (.node (k220_2 p P) (.node (k348_3 p P) (.node (k604_5 p P) .nil .nil) (.node (k860_7 p P) .nil .nil)) (.node (k476_4 p P) (.node (k732_6 p P) .nil .nil) (.node (k988_8 p P) .nil .nil)))) (.node (k124_2 p P) (.node (k188_2 p P) (.node (k316_3 p P) (.node (k572_5 p P) .nil .nil) (.node (k828_7 p P) .nil .nil)) (.node (k444_4 p P) (.node (k700_6 p P) .nil .nil) (.node (k956_8 p P) .nil .nil))) (.node (k252_3 p P) (.node (k380_3 p P) (.node (k636_5 p P) .nil .nil) (.node (k892_8 p P) .nil .nil)) (.node (k508_5 p P) (.node (k764_7 p P) .nil .nil) .nil))))))) (.node (k6_1 p P) (.node (k10_1 p P) (.node (k18_1 p P) (.node (k34_1 p P) (.node (k66_1 p P) (.node (k130_2 p P) (.node (k258_3 p P) (.node (k514_5 p P) .nil .nil) (.node (k770_7 p P) .nil .nil)) (.node (k386_4 p P) (.node (k642_5 p P) .nil .nil) (.node (k898_8 p P) .nil .nil))) (.node (k194_2 p P) (.node (k322_3 p P) (.node (k578_5 p P) .nil .nil) (.node (k834_7 p P) .nil .nil)) (.node (k450_4 p P) (.node (k706_6 p P) .nil .nil) (.node (k962_8 p P) .nil .nil)))) (.node (k98_1 p P) (.node (k162_2 p P) (.node (k290_3 p P) (.node (k546_5 p P) .nil .nil) (.node (k802_7 p P) .nil .nil)) (.node (k418_4 p P) (.node (k674_6 p P) .nil .nil) (.node (k930_8 p P) .nil .nil))) (.node (k226_2 p P) (.node (k354_3 p P) (.node (k610_5 p P) .nil .nil) (.node (k866_7 p P) .nil .nil)) (.node (k482_5 p P) (.node (k738_6 p P) .nil .nil) (.node (k994_8 p P) .nil .nil))))) (.node (k50_1 p P) (.node (k82_1 p P) (.node (k146_2 p P) (.node (k274_3 p P) (.node (k530_5 p P) .nil .nil) (.node (k786_7 p P) .nil .nil)) (.node (k402_4 p P) (.node (k658_5 p P) .nil .nil) (.node (k914_8 p P) .nil .nil))) (.node (k210_2 p P) (.node (k338_3 p P) (.node (k594_5 p P) .nil .nil) (.node (k850_7 p P) .nil .nil)) (.node (k466_4 p P) (.node (k722_6 p P) .nil .nil) (.node (k978_8 p P) .nil .nil)))) (.node (k114_2 p P) (.node (k178_2 p P) (.node (k306_3 p P) (.node (k562_5 p P) .nil .nil) (.node (k818_7 p P) .nil .nil)) (.node (k434_4 p P) (.node (k690_6 p P) .nil .nil) (.node (k946_8 p P) .nil .nil))) (.node (k242_2 p P) (.node (k370_3 p P) (.node (k626_5 p P) .nil .nil) (.node (k882_7 p P) .nil .nil)) (.node (k498_5 p P) (.node (k754_6 p P) .nil .nil) .nil))))) (.node (k26_1 p P) (.node (k42_1 p P) (.node (k74_1 p P) (.node (k138_2 p P) (.node (k266_3 p P) (.node (k522_5 p P) .nil .nil) (.node (k778_7 p P) .nil .nil)) (.node (k394_4 p P) (.node (k650_5 p P) .nil .nil) (.node (k906_8 p P) .nil .nil))) (.node (k202_2 p P) (.node (k330_3 p P) (.node (k586_5 p P) .nil .nil) (.node (k842_7 p P) .nil .nil)) (.node (k458_4 p P) (.node (k714_6 p P) .nil .nil) (.node (k970_8 p P) .nil .nil)))) (.node (k106_2 p P) (.node (k170_2 p P) (.node (k298_3 p P) (.node (k554_5 p P) .nil .nil) (.node (k810_7 p P) .nil .nil)) (.node (k426_4 p P) (.node (k682_6 p P) .nil .nil) (.node (k938_8 p P) .nil .nil))) (.node (k234_2 p P) (.node (k362_3 p P) (.node (k618_5 p P) .nil .nil) (.node (k874_7 p P) .nil .nil)) (.node (k490_5 p P) (.node (k746_6 p P) .nil .nil) (.node (k1002_8 p P) .nil .nil))))) (.node (k58_1 p P) (.node (k90_1 p P) (.node (k154_2 p P) (.node (k282_3 p P) (.node (k538_5 p P) .nil .nil) (.node (k794_7 p P) .nil .nil)) (.node (k410_4 p P) (.node (k666_5 p P) .nil .nil) (.node (k922_8 p P) .nil .nil))) (.node (k218_2 p P) (.node (k346_3 p P) (.node (k602_5 p P) .nil .nil) (.node (k858_7 p P) .nil .nil)) (.node (k474_4 p P) (.node (k730_6 p P) .nil .nil) (.node (k986_8 p P) .nil .nil)))) (.node (k122_2 p P) (.node (k186_2 p P) (.node (k314_3 p P) (.node (k570_5 p P) .nil .nil) (.node (k826_7 p P) .nil .nil)) (.node (k442_4 p P) (.node (k698_6 p P) .nil .nil) (.node (k954_8 p P) .nil .nil))) (.node (k250_3 p P) (.node (k378_3 p P) (.node (k634_5 p P) .nil .nil) (.node (k890_7 p P) .nil .nil)) (.node (k506_5 p P) (.node (k762_6 p P) .nil .nil) .nil)))))) (.node (k14_0 p P) (.node (k22_1 p P) (.node (k38_1 p P) (.node (k70_1 p P) (.node (k134_2 p P) (.node (k262_3 p P) (.node (k518_5 p P) .nil .nil) (.node (k774_7 p P) .nil .nil)) (.node (k390_4 p P) (.node (k646_5 p P) .nil .nil) (.node (k902_8 p P) .nil .nil))) (.node (k198_2 p P) (.node (k326_3 p P) (.node (k582_5 p P) .nil .nil) (.node (k838_7 p P) .nil .nil)) (.node (k454_4 p P) (.node (k710_6 p P) .nil .nil) (.node (k966_8 p P) .nil .nil)))) (.node (k102_2 p P) (.node (k166_2 p P) (.node (k294_3 p P) (.node (k550_5 p P) .nil .nil) (.node (k806_7 p P) .nil .nil)) (.node (k422_4 p P) (.node (k678_6 p P) .nil .nil) (.node (k934_8 p P) .nil .nil))) (.node (k230_2 p P) (.node (k358_3 p P) (.node (k614_5 p P) .nil .nil) (.node (k870_7 p P) .nil .nil)) (.node (k486_5 p P) (.node (k742_6 p P) .nil .nil) (.node (k998_8 p P) .nil .nil))))) (.node (k54_1 p P) (.node (k86_1 p P) (.node (k150_2 p P) (.node (k278_3 p P) (.node (k534_5 p P) .nil .nil) (.node (k790_7 p P) .nil .nil)) (.node (k406_4 p P) (.node (k662_5 p P) .nil .nil) (.node (k918_8 p P) .nil .nil))) (.node (k214_2 p P) (.node (k342_3 p P) (.node (k598_5 p P) .nil .nil) (.node (k854_7 p P) .nil .nil)) (.node (k470_4 p P) (.node (k726_6 p P) .nil .nil) (.node (k982_8 p P) .nil .nil)))) (.node (k118_2 p P) (.node (k182_2 p P) (.node (k310_3 p P) (.node (k566_5 p P) .nil .nil) (.node (k822_7 p P) .nil .nil)) (.node (k438_4 p P) (.node (k694_6 p P) .nil .nil) (.node (k950_8 p P) .nil .nil))) (.node (k246_2 p P) (.node (k374_3 p P) (.node (k630_5 p P) .nil .nil) (.node (k886_7 p P) .nil .nil)) (.node (k502_5 p P) (.node (k758_6 p P) .nil .nil) .nil))))) (.node (k30_1 p P) (.node (k46_1 p P) (.node (k78_1 p P) (.node (k142_2 p P) (.node (k270_3 p P) (.node (k526_5 p P) .nil .nil) (.node (k782_7 p P) .nil .nil)) (.node (k398_4 p P) (.node (k654_5 p P) .nil .nil) (.node (k910_8 p P) .nil .nil))) (.node (k206_2 p P) (.node (k334_3 p P) (.node (k590_5 p P) .nil .nil) (.node (k846_7 p P) .nil .nil)) (.node (k462_4 p P) (.node (k718_6 p P) .nil .nil) (.node (k974_8 p P) .nil .nil)))) (.node (k110_2 p P) (.node (k174_2 p P) (.node (k302_3 p P) (.node (k558_5 p P) .nil .nil) (.node (k814_7 p P) .nil .nil)) (.node (k430_4 p P) (.node (k686_6 p P) .nil .nil) (.node (k942_8 p P) .nil .nil))) (.node (k238_2 p P) (.node (k366_3 p P) (.node (k622_5 p P) .nil .nil) (.node (k878_7 p P) .nil .nil)) (.node (k494_5 p P) (.node (k750_6 p P) .nil .nil) (.node (k1006_8 p P) .nil .nil))))) (.node (k62_1 p P) (.node (k94_1 p P) (.node (k158_2 p P) (.node (k286_3 p P) (.node (k542_5 p P) .nil .nil) (.node (k798_7 p P) .nil .nil)) (.node (k414_4 p P) (.node (k670_5 p P) .nil .nil) (.node (k926_8 p P) .nil .nil))) (.node (k222_2 p P) (.node (k350_3 p P) (.node (k606_5 p P) .nil .nil) (.node (k862_7 p P) .nil .nil)) (.node (k478_4 p P) (.node (k734_6 p P) .nil .nil) (.node (k990_8 p P) .nil .nil)))) (.node (k126_2 p P) (.node (k190_2 p P) (.node (k318_3 p P) (.node (k574_5 p P) .nil .nil) (.node (k830_7 p P) .nil .nil)) (.node (k446_4 p P) (.node (k702_6 p P) .nil .nil) (.node (k958_8 p P) .nil .nil))) (.node (k254_3 p P) (.node (k382_4 p P) (.node (k638_5 p P) .nil .nil) (.node (k894_8 p P) .nil .nil)) (.node (k510_5 p P) (.node (k766_7 p P) .nil .nil) .nil)))))))))
noncomputable def S8 (p : Program) (w : World) (os : OsState) : SharedT := ⟨T8 p w.params, 1007, {}, #[], {}, 1600, os⟩
def pos8 : Pos := ⟨678, 0, 693, 15⟩
noncomputable def heapF (p : Program) (P : Params) : Heap := ⟨⟨[k0_0 p P, k1_1 p P, k2_1 p P, k3_8 p P, k4_1 p P, k5_1 p P, k6_1 p P, k7_1 p P, k8_1 p P, k9_1 p P, k10_1 p P, k11_0 p P, k12_8 p P, k13_0 p P, k14_0 p P, k15_1 p P, k16_1 p P, k17_1 p P, k18_1 p P, k19_1 p P, k20_1 p P, k21_1 p P, k22_1 p P, k23_1 p P, k24_1 p P, k25_1 p P, k26_1 p P, k27_1 p P, k28_1 p P, k29_1 p P, k30_1 p P, k31_1 p P, k32_1 p P, k33_1 p P, k34_1 p P, k35_1 p P, k36_1 p P, k37_1 p P, k38_1 p P, k39_1 p P, k40_1 p P, k41_1 p P, k42_1 p P, k43_1 p P, k44_1 p P, k45_1 p P, k46_1 p P, k47_1 p P, k48_1 p P, k49_1 p P, k50_1 p P, k51_1 p P, k52_1 p P, k53_1 p P, k54_1 p P, k55_1 p P, k56_1 p P, k57_1 p P, k58_1 p P, k59_1 p P, k60_1 p P, k61_1 p P, k62_1 p P, k63_1 p P, k64_1 p P, k65_1 p P, k66_1 p P, k67_1 p P, k68_1 p P, k69_1 p P, k70_1 p P, k71_1 p P, k72_1 p P, k73_1 p P, k74_1 p P, k75_1 p P, k76_1 p P, k77_1 p P, k78_1 p P, k79_1 p P, k80_1 p P, k81_1 p P, k82_1 p P, k83_1 p P, k84_1 p P, k85_1 p P, k86_1 p P, k87_1 p P, k88_1 p P, k89_1 p P, k90_1 p P, k91_1 p P, k92_1 p P, k93_1 p P, k94_1 p P, k95_1 p P, k96_1 p P, k97_1 p P, k98_1 p P, k99_1 p P, k100_1 p P, k101_2 p P, k102_2 p P, k103_2 p P, k104_2 p P, k105_2 p P, k106_2 p P, k107_2 p P, k108_2 p P, k109_2 p P, k110_2 p P, k111_2 p P, k112_2 p P, k113_2 p P, k114_2 p P, k115_2 p P, k116_2 p P, k117_2 p P, k118_2 p P, k119_2 p P, k120_2 p P, k121_2 p P, k122_2 p P, k123_2 p P, k124_2 p P, k125_2 p P, k126_2 p P, k127_2 p P, k128_2 p P, k129_2 p P, k130_2 p P, k131_2 p P, k132_2 p P, k133_2 p P, k134_2 p P, k135_2 p P, k136_2 p P, k137_2 p P, k138_2 p P, k139_2 p P, k140_2 p P, k141_2 p P, k142_2 p P, k143_2 p P, k144_2 p P, k145_2 p P, k146_2 p P, k147_2 p P, k148_2 p P, k149_2 p P, k150_2 p P, k151_2 p P, k152_2 p P, k153_2 p P, k154_2 p P, k155_2 p P, k156_2 p P, k157_2 p P, k158_2 p P, k159_2 p P, k160_2 p P, k161_2 p P, k162_2 p P, k163_2 p P, k164_2 p P, k165_2 p P, k166_2 p P, k167_2 p P, k168_2 p P, k169_2 p P, k170_2 p P, k171_2 p P, k172_2 p P, k173_2 p P, k174_2 p P, k175_2 p P, k176_2 p P, k177_2 p P, k178_2 p P, k179_2 p P, k180_2 p P, k181_2 p P, k182_2 p P, k183_2 p P, k184_2 p P, k185_2 p P, k186_2 p P, k187_2 p P, k188_2 p P, k189_2 p P, k190_2 p P, k191_2 p P, k192_2 p P, k193_2 p P, k194_2 p P, k195_2 p P, k196_2 p P, k197_2 p P, k198_2 p P, k199_2 p P, k200_2 p P, k201_2 p P, k202_2 p P, k203_2 p P, k204_2 p P, k205_2 p P, k206_2 p P, k207_2 p P, k208_2 p P, k209_2 p P, k210_2 p P, k211_2 p P, k212_2 p P, k213_2 p P, k214_2 p P, k215_2 p P, k216_2 p P, k217_2 p P, k218_2 p P, k219_2 p P, k220_2 p P, k221_2 p P, k222_2 p P, k223_2 p P, k224_2 p P, k225_2 p P, k226_2 p P, k227_2 p P, k228_2 p P, k229_2 p P, k230_2 p P, k231_2 p P, k232_2 p P, k233_2 p P, k234_2 p P, k235_2 p P, k236_2 p P, k237_2 p P, k238_2 p P, k239_2 p P, k240_2 p P, k241_2 p P, k242_2 p P, k243_2 p P, k244_2 p P, k245_2 p P, k246_2 p P, k247_2 p P, k248_2 p P, k249_3 p P, k250_3 p P, k251_3 p P, k252_3 p P, k253_3 p P, k254_3 p P, k255_3 p P, k256_3 p P, k257_3 p P, k258_3 p P, k259_3 p P, k260_3 p P, k261_3 p P, k262_3 p P, k263_3 p P, k264_3 p P, k265_3 p P, k266_3 p P, k267_3 p P, k268_3 p P, k269_3 p P, k270_3 p P, k271_3 p P, k272_3 p P, k273_3 p P, k274_3 p P, k275_3 p P, k276_3 p P, k277_3 p P, k278_3 p P, k279_3 p P, k280_3 p P, k281_3 p P, k282_3 p P, k283_3 p P, k284_3 p P, k285_3 p P, k286_3 p P, k287_3 p P, k288_3 p P, k289_3 p P, k290_3 p P, k291_3 p P, k292_3 p P, k293_3 p P, k294_3 p P, k295_3 p P, k296_3 p P, k297_3 p P, k298_3 p P, k299_3 p P, k300_3 p P, k301_3 p P, k302_3 p P, k303_3 p P, k304_3 p P, k305_3 p P, k306_3 p P, k307_3 p P, k308_3 p P, k309_3 p P, k310_3 p P, k311_3 p P, k312_3 p P, k313_3 p P, k314_3 p P, k315_3 p P, k316_3 p P, k317_3 p P, k318_3 p P, k319_3 p P, k320_3 p P, k321_3 p P, k322_3 p P, k323_3 p P, k324_3 p P, k325_3 p P, k326_3 p P, k327_3 p P, k328_3 p P, k329_3 p P, k330_3 p P, k331_3 p P, k332_3 p P, k333_3 p P, k334_3 p P, k335_3 p P, k336_3 p P, k337_3 p P, k338_3 p P, k339_3 p P, k340_3 p P, k341_3 p P, k342_3 p P, k343_3 p P, k344_3 p P, k345_3 p P, k346_3 p P, k347_3 p P, k348_3 p P, k349_3 p P, k350_3 p P, k351_3 p P, k352_3 p P, k353_3 p P, k354_3 p P, k355_3 p P, k356_3 p P, k357_3 p P, k358_3 p P, k359_3 p P, k360_3 p P, k361_3 p P, k362_3 p P, k363_3 p P, k364_3 p P, k365_3 p P, k366_3 p P, k367_3 p P, k368_3 p P, k369_3 p P, k370_3 p P, k371_3 p P, k372_3 p P, k373_3 p P, k374_3 p P, k375_3 p P, k376_3 p P, k377_3 p P, k378_3 p P, k379_3 p P, k380_3 p P, k381_3 p P, k382_4 p P, k383_4 p P, k384_4 p P, k385_4 p P, k386_4 p P, k387_4 p P, k388_4 p P, k389_4 p P, k390_4 p P, k391_4 p P, k392_4 p P, k393_4 p P, k394_4 p P, k395_4 p P, k396_4 p P, k397_4 p P, k398_4 p P, k399_4 p P, k400_4 p P, k401_4 p P, k402_4 p P, k403_4 p P, k404_4 p P, k405_4 p P, k406_4 p P, k407_4 p P, k408_4 p P, k409_4 p P, k410_4 p P, k411_4 p P, k412_4 p P, k413_4 p P, k414_4 p P, k415_4 p P, k416_4 p P, k417_4 p P, k418_4 p P, k419_4 p P, k420_4 p P, k421_4 p P, k422_4 p P, k423_4 p P, k424_4 p P, k425_4 p P, k426_4 p P, k427_4 p P, k428_4 p P, k429_4 p P, k430_4 p P, k431_4 p P, k432_4 p P, k433_4 p P, k434_4 p P, k435_4 p P, k436_4 p P, k437_4 p P, k438_4 p P, k439_4 p P, k440_4 p P, k441_4 p P, k442_4 p P, k443_4 p P, k444_4 p P, k445_4 p P, k446_4 p P, k447_4 p P, k448_4 p P, k449_4 p P, k450_4 p P, k451_4 p P, k452_4 p P, k453_4 p P, k454_4 p P, k455_4 p P, k456_4 p P, k457_4 p P, k458_4 p P, k459_4 p P, k460_4 p P, k461_4 p P, k462_4 p P, k463_4 p P, k464_4 p P, k465_4 p P, k466_4 p P, k467_4 p P, k468_4 p P, k469_4 p P, k470_4 p P, k471_4 p P, k472_4 p P, k473_4 p P, k474_4 p P, k475_4 p P, k476_4 p P, k477_4 p P, k478_4 p P, k479_4 p P, k480_5 p P, k481_5 p P, k482_5 p P, k483_5 p P, k484_5 p P, k485_5 p P, k486_5 p P, k487_5 p P, k488_5 p P, k489_5 p P, k490_5 p P, k491_5 p P, k492_5 p P, k493_5 p P, k494_5 p P, k495_5 p P, k496_5 p P, k497_5 p P, k498_5 p P, k499_5 p P, k500_5 p P, k501_5 p P, k502_5 p P, k503_5 p P, k504_5 p P, k505_5 p P, k506_5 p P, k507_5 p P, k508_5 p P, k509_5 p P, k510_5 p P, k511_5 p P, k512_5 p P, k513_5 p P, k514_5 p P, k515_5 p P, k516_5 p P, k517_5 p P, k518_5 p P, k519_5 p P, k520_5 p P, k521_5 p P, k522_5 p P, k523_5 p P, k524_5 p P, k525_5 p P, k526_5 p P, k527_5 p P, k528_5 p P, k529_5 p P, k530_5 p P, k531_5 p P, k532_5 p P, k533_5 p P, k534_5 p P, k535_5 p P, k536_5 p P, k537_5 p P, k538_5 p P, k539_5 p P, k540_5 p P, k541_5 p P, k542_5 p P, k543_5 p P, k544_5 p P, k545_5 p P, k546_5 p P, k547_5 p P, k548_5 p P, k549_5 p P, k550_5 p P, k551_5 p P, k552_5 p P, k553_5 p P, k554_5 p P, k555_5 p P, k556_5 p P, k557_5 p P, k558_5 p P, k559_5 p P, k560_5 p P, k561_5 p P, k562_5 p P, k563_5 p P, k564_5 p P, k565_5 p P, k566_5 p P, k567_5 p P, k568_5 p P, k569_5 p P, k570_5 p P, k571_5 p P, k572_5 p P, k573_5 p P, k574_5 p P, k575_5 p P, k576_5 p P, k577_5 p P, k578_5 p P, k579_5 p P, k580_5 p P, k581_5 p P, k582_5 p P, k583_5 p P, k584_5 p P, k585_5 p P, k586_5 p P, k587_5 p P, k588_5 p P, k589_5 p P, k590_5 p P, k591_5 p P, k592_5 p P, k593_5 p P, k594_5 p P, k595_5 p P, k596_5 p P, k597_5 p P, k598_5 p P, k599_5 p P, k600_5 p P, k601_5 p P, k602_5 p P, k603_5 p P, k604_5 p P, k605_5 p P, k606_5 p P, k607_5 p P, k608_5 p P, k609_5 p P, k610_5 p P, k611_5 p P, k612_5 p P, k613_5 p P, k614_5 p P, k615_5 p P, k616_5 p P, k617_5 p P, k618_5 p P, k619_5 p P, k620_5 p P, k621_5 p P, k622_5 p P, k623_5 p P, k624_5 p P, k625_5 p P, k626_5 p P, k627_5 p P, k628_5 p P, k629_5 p P, k630_5 p P, k631_5 p P, k632_5 p P, k633_5 p P, k634_5 p P, k635_5 p P, k636_5 p P, k637_5 p P, k638_5 p P, k639_5 p P, k640_5 p P, k641_5 p P, k642_5 p P, k643_5 p P, k644_5 p P, k645_5 p P, k646_5 p P, k647_5 p P, k648_5 p P, k649_5 p P, k650_5 p P, k651_5 p P, k652_5 p P, k653_5 p P, k654_5 p P, k655_5 p P, k656_5 p P, k657_5 p P, k658_5 p P, k659_5 p P, k660_5 p P, k661_5 p P, k662_5 p P, k663_5 p P, k664_5 p P, k665_5 p P, k666_5 p P, k667_5 p P, k668_5 p P, k669_5 p P, k670_5 p P, k671_6 p P, k672_6 p P, k673_6 p P, k674_6 p P, k675_6 p P, k676_6 p P, k677_6 p P, k678_6 p P, k679_6 p P, k680_6 p P, k681_6 p P, k682_6 p P, k683_6 p P, k684_6 p P, k685_6 p P, k686_6 p P, k687_6 p P, k688_6 p P, k689_6 p P, k690_6 p P, k691_6 p P, k692_6 p P, k693_6 p P, k694_6 p P, k695_6 p P, k696_6 p P, k697_6 p P, k698_6 p P, k699_6 p P, k700_6 p P, k701_6 p P, k702_6 p P, k703_6 p P, k704_6 p P, k705_6 p P, k706_6 p P, k707_6 p P, k708_6 p P, k709_6 p P, k710_6 p P, k711_6 p P, k712_6 p P, k713_6 p P, k714_6 p P, k715_6 p P, k716_6 p P, k717_6 p P, k718_6 p P, k719_6 p P, k720_6 p P, k721_6 p P, k722_6 p P, k723_6 p P, k724_6 p P, k725_6 p P, k726_6 p P, k727_6 p P, k728_6 p P, k729_6 p P, k730_6 p P, k731_6 p P, k732_6 p P, k733_6 p P, k734_6 p P, k735_6 p P, k736_6 p P, k737_6 p P, k738_6 p P, k739_6 p P, k740_6 p P, k741_6 p P, k742_6 p P, k743_6 p P, k744_6 p P, k745_6 p P, k746_6 p P, k747_6 p P, k748_6 p P, k749_6 p P, k750_6 p P, k751_6 p P, k752_6 p P, k753_6 p P, k754_6 p P, k755_6 p P, k756_6 p P, k757_6 p P, k758_6 p P, k759_6 p P, k760_6 p P, k761_6 p P, k762_6 p P, k763_7 p P, k764_7 p P, k765_7 p P, k766_7 p P, k767_7 p P, k768_7 p P, k769_7 p P, k770_7 p P, k771_7 p P, k772_7 p P, k773_7 p P, k774_7 p P, k775_7 p P, k776_7 p P, k777_7 p P, k778_7 p P, k779_7 p P, k780_7 p P, k781_7 p P, k782_7 p P, k783_7 p P, k784_7 p P, k785_7 p P, k786_7 p P, k787_7 p P, k788_7 p P, k789_7 p P, k790_7 p P, k791_7 p P, k792_7 p P, k793_7 p P, k794_7 p P, k795_7 p P, k796_7 p P, k797_7 p P, k798_7 p P, k799_7 p P, k800_7 p P, k801_7 p P, k802_7 p P, k803_7 p P, k804_7 p P, k805_7 p P, k806_7 p P, k807_7 p P, k808_7 p P, k809_7 p P, k810_7 p P, k811_7 p P, k812_7 p P, k813_7 p P, k814_7 p P, k815_7 p P, k816_7 p P, k817_7 p P, k818_7 p P, k819_7 p P, k820_7 p P, k821_7 p P, k822_7 p P, k823_7 p P, k824_7 p P, k825_7 p P, k826_7 p P, k827_7 p P, k828_7 p P, k829_7 p P, k830_7 p P, k831_7 p P, k832_7 p P, k833_7 p P, k834_7 p P, k835_7 p P, k836_7 p P, k837_7 p P, k838_7 p P, k839_7 p P, k840_7 p P, k841_7 p P, k842_7 p P, k843_7 p P, k844_7 p P, k845_7 p P, k846_7 p P, k847_7 p P, k848_7 p P, k849_7 p P, k850_7 p P, k851_7 p P, k852_7 p P, k853_7 p P, k854_7 p P, k855_7 p P, k856_7 p P, k857_7 p P, k858_7 p P, k859_7 p P, k860_7 p P, k861_7 p P, k862_7 p P, k863_7 p P, k864_7 p P, k865_7 p P, k866_7 p P, k867_7 p P, k868_7 p P, k869_7 p P, k870_7 p P, k871_7 p P, k872_7 p P, k873_7 p P, k874_7 p P, k875_7 p P, k876_7 p P, k877_7 p P, k878_7 p P, k879_7 p P, k880_7 p P, k881_7 p P, k882_7 p P, k883_7 p P, k884_7 p P, k885_7 p P, k886_7 p P, k887_7 p P, k888_7 p P, k889_7 p P, k890_7 p P, k891_7 p P, k892_8 p P, k893_8 p P, k894_8 p P, k895_8 p P, k896_8 p P, k897_8 p P, k898_8 p P, k899_8 p P, k900_8 p P, k901_8 p P, k902_8 p P, k903_8 p P, k904_8 p P, k905_8 p P, k906_8 p P, k907_8 p P, k908_8 p P, k909_8 p P, k910_8 p P, k911_8 p P, k912_8 p P, k913_8 p P, k914_8 p P, k915_8 p P, k916_8 p P, k917_8 p P, k918_8 p P, k919_8 p P, k920_8 p P, k921_8 p P, k922_8 p P, k923_8 p P, k924_8 p P, k925_8 p P, k926_8 p P, k927_8 p P, k928_8 p P, k929_8 p P, k930_8 p P, k931_8 p P, k932_8 p P, k933_8 p P, k934_8 p P, k935_8 p P, k936_8 p P, k937_8 p P, k938_8 p P, k939_8 p P, k940_8 p P, k941_8 p P, k942_8 p P, k943_8 p P, k944_8 p P, k945_8 p P, k946_8 p P, k947_8 p P, k948_8 p P, k949_8 p P, k950_8 p P, k951_8 p P, k952_8 p P, k953_8 p P, k954_8 p P, k955_8 p P, k956_8 p P, k957_8 p P, k958_8 p P, k959_8 p P, k960_8 p P, k961_8 p P, k962_8 p P, k963_8 p P, k964_8 p P, k965_8 p P, k966_8 p P, k967_8 p P, k968_8 p P, k969_8 p P, k970_8 p P, k971_8 p P, k972_8 p P, k973_8 p P, k974_8 p P, k975_8 p P, k976_8 p P, k977_8 p P, k978_8 p P, k979_8 p P, k980_8 p P, k981_8 p P, k982_8 p P, k983_8 p P, k984_8 p P, k985_8 p P, k986_8 p P, k987_8 p P, k988_8 p P, k989_8 p P, k990_8 p P, k991_8 p P, k992_8 p P, k993_8 p P, k994_8 p P, k995_8 p P, k996_8 p P, k997_8 p P, k998_8 p P, k999_8 p P, k1000_8 p P, k1001_8 p P, k1002_8 p P, k1003_8 p P, k1004_8 p P, k1005_8 p P, k1006_8 p P]⟩, {}⟩
noncomputable def KG (p : Program) (P : Params) : Frag := (nat_lit 2, k2_1 p P) ::
  (nat_lit 3, k3_8 p P) ::
  (nat_lit 71, k71_1 p P) ::
  (nat_lit 72, k72_1 p P) ::
  (nat_lit 78, k78_1 p P) ::
  (nat_lit 79, k79_1 p P) ::
  (nat_lit 85, k85_1 p P) ::
  (nat_lit 86, k86_1 p P) ::
  (nat_lit 92, k92_1 p P) ::
  (nat_lit 93, k93_1 p P) ::
  (nat_lit 99, k99_1 p P) ::
  (nat_lit 100, k100_1 p P) ::
  (nat_lit 113, k113_2 p P) ::
  (nat_lit 114, k114_2 p P) ::
  (nat_lit 152, k152_2 p P) ::
  (nat_lit 153, k153_2 p P) ::
  (nat_lit 170, k170_2 p P) ::
  (nat_lit 171, k171_2 p P) ::
  (nat_lit 243, k243_2 p P) ::
  (nat_lit 244, k244_2 p P) ::
  (nat_lit 261, k261_3 p P) ::
  (nat_lit 262, k262_3 p P) ::
  (nat_lit 275, k275_3 p P) ::
  (nat_lit 276, k276_3 p P) ::
  (nat_lit 296, k296_3 p P) ::
  (nat_lit 297, k297_3 p P) ::
  (nat_lit 310, k310_3 p P) ::
  (nat_lit 311, k311_3 p P) ::
  (nat_lit 317, k317_3 p P) ::
  (nat_lit 318, k318_3 p P) ::
  (nat_lit 320, k320_3 p P) ::
  (nat_lit 321, k321_3 p P) ::
  (nat_lit 338, k338_3 p P) ::
  (nat_lit 339, k339_3 p P) ::
  (nat_lit 345, k345_3 p P) ::
  (nat_lit 346, k346_3 p P) ::
  (nat_lit 359, k359_3 p P) ::
  (nat_lit 360, k360_3 p P) ::
  (nat_lit 366, k366_3 p P) ::
  (nat_lit 367, k367_3 p P) ::
  (nat_lit 373, k373_3 p P) ::
  (nat_lit 374, k374_3 p P) ::
  (nat_lit 376, k376_3 p P) ::
  (nat_lit 377, k377_3 p P) ::
  (nat_lit 394, k394_4 p P) ::
  (nat_lit 395, k395_4 p P) ::
  (nat_lit 401, k401_4 p P) ::
  (nat_lit 402, k402_4 p P) ::
  (nat_lit 429, k429_4 p P) ::
  (nat_lit 430, k430_4 p P) ::
  (nat_lit 432, k432_4 p P) ::
  (nat_lit 433, k433_4 p P) ::
  (nat_lit 450, k450_4 p P) ::
  (nat_lit 451, k451_4 p P) ::
  (nat_lit 474, k474_4 p P) ::
  (nat_lit 475, k475_4 p P) ::
  (nat_lit 492, k492_5 p P) ::
  (nat_lit 493, k493_5 p P) ::
  (nat_lit 501, k501_5 p P) ::
  (nat_lit 528, k528_5 p P) ::
  (nat_lit 529, k529_5 p P) ::
  (nat_lit 577, k577_5 p P) ::
  (nat_lit 578, k578_5 p P) ::
  (nat_lit 584, k584_5 p P) ::
  (nat_lit 585, k585_5 p P) ::
  (nat_lit 613, k613_5 p P) ::
  (nat_lit 614, k614_5 p P) ::
  (nat_lit 662, k662_5 p P) ::
  (nat_lit 663, k663_5 p P) ::
  (nat_lit 665, k665_5 p P) ::
  (nat_lit 666, k666_5 p P) ::
  (nat_lit 676, k676_6 p P) ::
  (nat_lit 677, k677_6 p P) ::
  (nat_lit 685, k685_6 p P) ::
  (nat_lit 691, k691_6 p P) ::
  (nat_lit 692, k692_6 p P) ::
  (nat_lit 715, k715_6 p P) ::
  (nat_lit 716, k716_6 p P) ::
  (nat_lit 726, k726_6 p P) ::
  (nat_lit 727, k727_6 p P) ::
  (nat_lit 733, k733_6 p P) ::
  (nat_lit 734, k734_6 p P) ::
  (nat_lit 740, k740_6 p P) ::
  (nat_lit 741, k741_6 p P) ::
  (nat_lit 747, k747_6 p P) ::
  (nat_lit 748, k748_6 p P) ::
  (nat_lit 754, k754_6 p P) ::
  (nat_lit 755, k755_6 p P) ::
  (nat_lit 761, k761_6 p P) ::
  (nat_lit 762, k762_6 p P) ::
  (nat_lit 770, k770_7 p P) ::
  (nat_lit 774, k774_7 p P) ::
  (nat_lit 775, k775_7 p P) ::
  (nat_lit 781, k781_7 p P) ::
  (nat_lit 782, k782_7 p P) ::
  (nat_lit 788, k788_7 p P) ::
  (nat_lit 789, k789_7 p P) ::
  (nat_lit 795, k795_7 p P) ::
  (nat_lit 796, k796_7 p P) ::
  (nat_lit 802, k802_7 p P) ::
  (nat_lit 803, k803_7 p P) ::
  (nat_lit 807, k807_7 p P) ::
  (nat_lit 808, k808_7 p P) ::
  (nat_lit 822, k822_7 p P) ::
  (nat_lit 823, k823_7 p P) ::
  (nat_lit 840, k840_7 p P) ::
  (nat_lit 841, k841_7 p P) ::
  (nat_lit 843, k843_7 p P) ::
  (nat_lit 844, k844_7 p P) ::
  (nat_lit 854, k854_7 p P) ::
  (nat_lit 855, k855_7 p P) ::
  (nat_lit 868, k868_7 p P) ::
  (nat_lit 869, k869_7 p P) ::
  (nat_lit 875, k875_7 p P) ::
  (nat_lit 876, k876_7 p P) ::
  (nat_lit 877, k877_7 p P) ::
  (nat_lit 883, k883_7 p P) ::
  (nat_lit 884, k884_7 p P) ::
  (nat_lit 886, k886_7 p P) ::
  (nat_lit 887, k887_7 p P) ::
  (nat_lit 897, k897_8 p P) ::
  (nat_lit 898, k898_8 p P) ::
  (nat_lit 904, k904_8 p P) ::
  (nat_lit 905, k905_8 p P) ::
  (nat_lit 911, k911_8 p P) ::
  (nat_lit 912, k912_8 p P) ::
  (nat_lit 925, k925_8 p P) ::
  (nat_lit 926, k926_8 p P) ::
  (nat_lit 939, k939_8 p P) ::
  (nat_lit 940, k940_8 p P) ::
  (nat_lit 946, k946_8 p P) ::
  (nat_lit 947, k947_8 p P) ::
  (nat_lit 953, k953_8 p P) ::
  (nat_lit 954, k954_8 p P) ::
  (nat_lit 967, k967_8 p P) ::
  (nat_lit 968, k968_8 p P) ::
  (nat_lit 974, k974_8 p P) ::
  (nat_lit 975, k975_8 p P) ::
  (nat_lit 981, k981_8 p P) ::
  (nat_lit 982, k982_8 p P) ::
  (nat_lit 986, k986_8 p P) ::
  (nat_lit 987, k987_8 p P) ::
  (nat_lit 993, k993_8 p P) ::
  (nat_lit 994, k994_8 p P) ::
  (nat_lit 1000, k1000_8 p P) ::
  (nat_lit 1001, k1001_8 p P) ::
  (nat_lit 1005, k1005_8 p P) ::
  (nat_lit 1006, k1006_8 p P) :: []
noncomputable def KF (P : Params) : Frag := (nat_lit 2, k2_1 PySem.Challenge.pw_xw0342_01 P) ::
  (nat_lit 3, k3_8 PySem.Challenge.pw_xw0342_01 P) ::
  (nat_lit 71, k71_1 PySem.Challenge.pw_xw0342_01 P) ::
  (nat_lit 72, k72_1 PySem.Challenge.pw_xw0342_01 P) ::
  (nat_lit 78, k78_1 PySem.Challenge.pw_xw0342_01 P) ::
  (nat_lit 79, k79_1 PySem.Challenge.pw_xw0342_01 P) ::
  (nat_lit 85, k85_1 PySem.Challenge.pw_xw0342_01 P) ::
  (nat_lit 86, k86_1 PySem.Challenge.pw_xw0342_01 P) ::
  (nat_lit 92, k92_1 PySem.Challenge.pw_xw0342_01 P) ::
  (nat_lit 93, k93_1 PySem.Challenge.pw_xw0342_01 P) ::
  (nat_lit 99, k99_1 PySem.Challenge.pw_xw0342_01 P) ::
  (nat_lit 100, k100_1 PySem.Challenge.pw_xw0342_01 P) ::
  (nat_lit 113, k113_2 PySem.Challenge.pw_xw0342_01 P) ::
  (nat_lit 114, k114_2 PySem.Challenge.pw_xw0342_01 P) ::
  (nat_lit 152, k152_2 PySem.Challenge.pw_xw0342_01 P) ::
  (nat_lit 153, k153_2 PySem.Challenge.pw_xw0342_01 P) ::
  (nat_lit 170, k170_2 PySem.Challenge.pw_xw0342_01 P) ::
  (nat_lit 171, k171_2 PySem.Challenge.pw_xw0342_01 P) ::
  (nat_lit 243, k243_2 PySem.Challenge.pw_xw0342_01 P) ::
  (nat_lit 244, k244_2 PySem.Challenge.pw_xw0342_01 P) ::
  (nat_lit 261, k261_3 PySem.Challenge.pw_xw0342_01 P) ::
  (nat_lit 262, k262_3 PySem.Challenge.pw_xw0342_01 P) ::
  (nat_lit 275, k275_3 PySem.Challenge.pw_xw0342_01 P) ::
  (nat_lit 276, k276_3 PySem.Challenge.pw_xw0342_01 P) ::
  (nat_lit 296, k296_3 PySem.Challenge.pw_xw0342_01 P) ::
  (nat_lit 297, k297_3 PySem.Challenge.pw_xw0342_01 P) ::
  (nat_lit 310, k310_3 PySem.Challenge.pw_xw0342_01 P) ::
  (nat_lit 311, k311_3 PySem.Challenge.pw_xw0342_01 P) ::
  (nat_lit 317, k317_3 PySem.Challenge.pw_xw0342_01 P) ::
  (nat_lit 318, k318_3 PySem.Challenge.pw_xw0342_01 P) ::
  (nat_lit 320, k320_3 PySem.Challenge.pw_xw0342_01 P) ::
  (nat_lit 321, k321_3 PySem.Challenge.pw_xw0342_01 P) ::
  (nat_lit 338, k338_3 PySem.Challenge.pw_xw0342_01 P) ::
  (nat_lit 339, k339_3 PySem.Challenge.pw_xw0342_01 P) ::
  (nat_lit 345, k345_3 PySem.Challenge.pw_xw0342_01 P) ::
  (nat_lit 346, k346_3 PySem.Challenge.pw_xw0342_01 P) ::
  (nat_lit 359, k359_3 PySem.Challenge.pw_xw0342_01 P) ::
  (nat_lit 360, k360_3 PySem.Challenge.pw_xw0342_01 P) ::
  (nat_lit 366, k366_3 PySem.Challenge.pw_xw0342_01 P) ::
  (nat_lit 367, k367_3 PySem.Challenge.pw_xw0342_01 P) ::
  (nat_lit 373, k373_3 PySem.Challenge.pw_xw0342_01 P) ::
  (nat_lit 374, k374_3 PySem.Challenge.pw_xw0342_01 P) ::
  (nat_lit 376, k376_3 PySem.Challenge.pw_xw0342_01 P) ::
  (nat_lit 377, k377_3 PySem.Challenge.pw_xw0342_01 P) ::
  (nat_lit 394, k394_4 PySem.Challenge.pw_xw0342_01 P) ::
  (nat_lit 395, k395_4 PySem.Challenge.pw_xw0342_01 P) ::
  (nat_lit 401, k401_4 PySem.Challenge.pw_xw0342_01 P) ::
  (nat_lit 402, k402_4 PySem.Challenge.pw_xw0342_01 P) ::
  (nat_lit 429, k429_4 PySem.Challenge.pw_xw0342_01 P) ::
  (nat_lit 430, k430_4 PySem.Challenge.pw_xw0342_01 P) ::
  (nat_lit 432, k432_4 PySem.Challenge.pw_xw0342_01 P) ::
  (nat_lit 433, k433_4 PySem.Challenge.pw_xw0342_01 P) ::
  (nat_lit 450, k450_4 PySem.Challenge.pw_xw0342_01 P) ::
  (nat_lit 451, k451_4 PySem.Challenge.pw_xw0342_01 P) ::
  (nat_lit 474, k474_4 PySem.Challenge.pw_xw0342_01 P) ::
  (nat_lit 475, k475_4 PySem.Challenge.pw_xw0342_01 P) ::
  (nat_lit 492, k492_5 PySem.Challenge.pw_xw0342_01 P) ::
  (nat_lit 493, k493_5 PySem.Challenge.pw_xw0342_01 P) ::
  (nat_lit 501, k501_5 PySem.Challenge.pw_xw0342_01 P) ::
  (nat_lit 528, k528_5 PySem.Challenge.pw_xw0342_01 P) ::
  (nat_lit 529, k529_5 PySem.Challenge.pw_xw0342_01 P) ::
  (nat_lit 577, k577_5 PySem.Challenge.pw_xw0342_01 P) ::
  (nat_lit 578, k578_5 PySem.Challenge.pw_xw0342_01 P) ::
  (nat_lit 584, k584_5 PySem.Challenge.pw_xw0342_01 P) ::
  (nat_lit 585, k585_5 PySem.Challenge.pw_xw0342_01 P) ::
  (nat_lit 613, k613_5 PySem.Challenge.pw_xw0342_01 P) ::
  (nat_lit 614, k614_5 PySem.Challenge.pw_xw0342_01 P) ::
  (nat_lit 662, k662_5 PySem.Challenge.pw_xw0342_01 P) ::
  (nat_lit 663, k663_5 PySem.Challenge.pw_xw0342_01 P) ::
  (nat_lit 665, k665_5 PySem.Challenge.pw_xw0342_01 P) ::
  (nat_lit 666, k666_5 PySem.Challenge.pw_xw0342_01 P) ::
  (nat_lit 676, k676_6 PySem.Challenge.pw_xw0342_01 P) ::
  (nat_lit 677, k677_6 PySem.Challenge.pw_xw0342_01 P) ::
  (nat_lit 685, k685_6 PySem.Challenge.pw_xw0342_01 P) ::
  (nat_lit 691, k691_6 PySem.Challenge.pw_xw0342_01 P) ::
  (nat_lit 692, k692_6 PySem.Challenge.pw_xw0342_01 P) ::
  (nat_lit 715, k715_6 PySem.Challenge.pw_xw0342_01 P) ::
  (nat_lit 716, k716_6 PySem.Challenge.pw_xw0342_01 P) ::
  (nat_lit 726, k726_6 PySem.Challenge.pw_xw0342_01 P) ::
  (nat_lit 727, k727_6 PySem.Challenge.pw_xw0342_01 P) ::
  (nat_lit 733, k733_6 PySem.Challenge.pw_xw0342_01 P) ::
  (nat_lit 734, k734_6 PySem.Challenge.pw_xw0342_01 P) ::
  (nat_lit 740, k740_6 PySem.Challenge.pw_xw0342_01 P) ::
  (nat_lit 741, k741_6 PySem.Challenge.pw_xw0342_01 P) ::
  (nat_lit 747, k747_6 PySem.Challenge.pw_xw0342_01 P) ::
  (nat_lit 748, k748_6 PySem.Challenge.pw_xw0342_01 P) ::
  (nat_lit 754, k754_6 PySem.Challenge.pw_xw0342_01 P) ::
  (nat_lit 755, k755_6 PySem.Challenge.pw_xw0342_01 P) ::
  (nat_lit 761, k761_6 PySem.Challenge.pw_xw0342_01 P) ::
  (nat_lit 762, k762_6 PySem.Challenge.pw_xw0342_01 P) ::
  (nat_lit 770, k770_7 PySem.Challenge.pw_xw0342_01 P) ::
  (nat_lit 774, k774_7 PySem.Challenge.pw_xw0342_01 P) ::
  (nat_lit 775, k775_7 PySem.Challenge.pw_xw0342_01 P) ::
  (nat_lit 781, k781_7 PySem.Challenge.pw_xw0342_01 P) ::
  (nat_lit 782, k782_7 PySem.Challenge.pw_xw0342_01 P) ::
  (nat_lit 788, k788_7 PySem.Challenge.pw_xw0342_01 P) ::
  (nat_lit 789, k789_7 PySem.Challenge.pw_xw0342_01 P) ::
  (nat_lit 795, k795_7 PySem.Challenge.pw_xw0342_01 P) ::
  (nat_lit 796, k796_7 PySem.Challenge.pw_xw0342_01 P) ::
  (nat_lit 802, k802_7 PySem.Challenge.pw_xw0342_01 P) ::
  (nat_lit 803, k803_7 PySem.Challenge.pw_xw0342_01 P) ::
  (nat_lit 807, k807_7 PySem.Challenge.pw_xw0342_01 P) ::
  (nat_lit 808, k808_7 PySem.Challenge.pw_xw0342_01 P) ::
  (nat_lit 822, k822_7 PySem.Challenge.pw_xw0342_01 P) ::
  (nat_lit 823, k823_7 PySem.Challenge.pw_xw0342_01 P) ::
  (nat_lit 840, k840_7 PySem.Challenge.pw_xw0342_01 P) ::
  (nat_lit 841, k841_7 PySem.Challenge.pw_xw0342_01 P) ::
  (nat_lit 843, k843_7 PySem.Challenge.pw_xw0342_01 P) ::
  (nat_lit 844, k844_7 PySem.Challenge.pw_xw0342_01 P) ::
  (nat_lit 854, k854_7 PySem.Challenge.pw_xw0342_01 P) ::
  (nat_lit 855, k855_7 PySem.Challenge.pw_xw0342_01 P) ::
  (nat_lit 868, k868_7 PySem.Challenge.pw_xw0342_01 P) ::
  (nat_lit 869, k869_7 PySem.Challenge.pw_xw0342_01 P) ::
  (nat_lit 875, k875_7 PySem.Challenge.pw_xw0342_01 P) ::
  (nat_lit 876, k876_7 PySem.Challenge.pw_xw0342_01 P) ::
  (nat_lit 877, k877_7 PySem.Challenge.pw_xw0342_01 P) ::
  (nat_lit 883, k883_7 PySem.Challenge.pw_xw0342_01 P) ::
  (nat_lit 884, k884_7 PySem.Challenge.pw_xw0342_01 P) ::
  (nat_lit 886, k886_7 PySem.Challenge.pw_xw0342_01 P) ::
  (nat_lit 887, k887_7 PySem.Challenge.pw_xw0342_01 P) ::
  (nat_lit 897, k897_8 PySem.Challenge.pw_xw0342_01 P) ::
  (nat_lit 898, k898_8 PySem.Challenge.pw_xw0342_01 P) ::
  (nat_lit 904, k904_8 PySem.Challenge.pw_xw0342_01 P) ::
  (nat_lit 905, k905_8 PySem.Challenge.pw_xw0342_01 P) ::
  (nat_lit 911, k911_8 PySem.Challenge.pw_xw0342_01 P) ::
  (nat_lit 912, k912_8 PySem.Challenge.pw_xw0342_01 P) ::
  (nat_lit 925, k925_8 PySem.Challenge.pw_xw0342_01 P) ::
  (nat_lit 926, k926_8 PySem.Challenge.pw_xw0342_01 P) ::
  (nat_lit 939, k939_8 PySem.Challenge.pw_xw0342_01 P) ::
  (nat_lit 940, k940_8 PySem.Challenge.pw_xw0342_01 P) ::
  (nat_lit 946, k946_8 PySem.Challenge.pw_xw0342_01 P) ::
  (nat_lit 947, k947_8 PySem.Challenge.pw_xw0342_01 P) ::
  (nat_lit 953, k953_8 PySem.Challenge.pw_xw0342_01 P) ::
  (nat_lit 954, k954_8 PySem.Challenge.pw_xw0342_01 P) ::
  (nat_lit 967, k967_8 PySem.Challenge.pw_xw0342_01 P) ::
  (nat_lit 968, k968_8 PySem.Challenge.pw_xw0342_01 P) ::
  (nat_lit 974, k974_8 PySem.Challenge.pw_xw0342_01 P) ::
  (nat_lit 975, k975_8 PySem.Challenge.pw_xw0342_01 P) ::
  (nat_lit 981, k981_8 PySem.Challenge.pw_xw0342_01 P) ::
  (nat_lit 982, k982_8 PySem.Challenge.pw_xw0342_01 P) ::
  (nat_lit 986, k986_8 PySem.Challenge.pw_xw0342_01 P) ::
  (nat_lit 987, k987_8 PySem.Challenge.pw_xw0342_01 P) ::
  (nat_lit 993, k993_8 PySem.Challenge.pw_xw0342_01 P) ::
  (nat_lit 994, k994_8 PySem.Challenge.pw_xw0342_01 P) ::
  (nat_lit 1000, k1000_8 PySem.Challenge.pw_xw0342_01 P) ::
  (nat_lit 1001, k1001_8 PySem.Challenge.pw_xw0342_01 P) ::
  (nat_lit 1005, k1005_8 PySem.Challenge.pw_xw0342_01 P) ::
  (nat_lit 1006, k1006_8 PySem.Challenge.pw_xw0342_01 P) :: []
def asK : List Nat := [2, 3, 71, 72, 78, 79, 85, 86, 92, 93, 99, 100, 113, 114, 152, 153, 170, 171, 243, 244, 261, 262, 275, 276, 296, 297, 310, 311, 317, 318, 320, 321, 338, 339, 345, 346, 359, 360, 366, 367, 373, 374, 376, 377, 394, 395, 401, 402, 429, 430, 432, 433, 450, 451, 474, 475, 492, 493, 501, 528, 529, 577, 578, 584, 585, 613, 614, 662, 663, 665, 666, 676, 677, 685, 691, 692, 715, 716, 726, 727, 733, 734, 740, 741, 747, 748, 754, 755, 761, 762, 770, 774, 775, 781, 782, 788, 789, 795, 796, 802, 803, 807, 808, 822, 823, 840, 841, 843, 844, 854, 855, 868, 869, 875, 876, 877, 883, 884, 886, 887, 897, 898, 904, 905, 911, 912, 925, 926, 939, 940, 946, 947, 953, 954, 967, 968, 974, 975, 981, 982, 986, 987, 993, 994, 1000, 1001, 1005, 1006]
theorem asK_is (P : Params) : asK = (KF P).map (·.1) := by kernel_rfl
noncomputable abbrev HK : Hook := kHook KF asK asK_is
/-! ## the top's run, in 8 pieces -/
def envT (p : Program) : Env := { scope := p.main.scope, locals := mainNs, globals := mainNs, cells := [], code := .ref 13, frame := some 14 }
def cE (p : Program) : Code := .body (behindTheImports p) (envT p)
def ann1 : Option Value := some (.ref 6)
def slice (p : Program) (a k : Nat) : List Stmt := ((behindTheImports p).drop a).take k
/-- one piece's equation, for any make of the machine's parts -/
def Piece (sg : type_of% segRunT) (tb : String → Option Builtin) (p : Program) (N : Nat) (S S' : Program → World → OsState → SharedT) (a k : Nat) (q q' : Pos) : Prop :=
  ∀ (w : World) (os : OsState), sg tb p w 11 ann1 1 N (S p w os) (piecesOf (slice p a k) (envT p) (cE p) q [topFrame pos0]) = some (.next, S' p w os, cE p, q')
theorem piece_back {N : Nat} {S S' : Program → World → OsState → SharedT} {a k : Nat} {q q' : Pos} (h : Piece PySem.W.Fast.tw10110043849684766642 PySem.W.Fast.tw14364793385576792824 PySem.Challenge.pw_xw0342_01 N S S' a k q q') : Piece segRunT treeTable PySem.Challenge.pw_xw0342_01 N S S' a k q q' := by
  rw [← PySem.W.Fast.te10110043849684766642, ← PySem.W.Fast.te14364793385576792824] at h
  exact h
set_option maxHeartbeats 0 in
theorem pcQ1 : Piece PySem.W.Fast.tw10110043849684766642 PySem.W.Fast.tw14364793385576792824 PySem.Challenge.pw_xw0342_01 867 S0 S1 0 12 pos0 pos1 := by intro w os; kernel_rfl
set_option maxHeartbeats 0 in
theorem pcQ2 : Piece PySem.W.Fast.tw10110043849684766642 PySem.W.Fast.tw14364793385576792824 PySem.Challenge.pw_xw0342_01 963 S1 S2 12 5 pos1 pos2 := by intro w os; kernel_rfl
set_option maxHeartbeats 0 in
theorem pcQ3 : Piece PySem.W.Fast.tw10110043849684766642 PySem.W.Fast.tw14364793385576792824 PySem.Challenge.pw_xw0342_01 890 S2 S3 17 4 pos2 pos3 := by intro w os; kernel_rfl
set_option maxHeartbeats 0 in
theorem pcQ4 : Piece PySem.W.Fast.tw10110043849684766642 PySem.W.Fast.tw14364793385576792824 PySem.Challenge.pw_xw0342_01 719 S3 S4 21 3 pos3 pos4 := by intro w os; kernel_rfl
set_option maxHeartbeats 0 in
theorem pcQ5 : Piece PySem.W.Fast.tw10110043849684766642 PySem.W.Fast.tw14364793385576792824 PySem.Challenge.pw_xw0342_01 1075 S4 S5 24 2 pos4 pos5 := by intro w os; kernel_rfl
set_option maxHeartbeats 0 in
theorem pcQ6 : Piece PySem.W.Fast.tw10110043849684766642 PySem.W.Fast.tw14364793385576792824 PySem.Challenge.pw_xw0342_01 721 S5 S6 26 28 pos5 pos6 := by intro w os; kernel_rfl
set_option maxHeartbeats 0 in
theorem pcQ7 : Piece PySem.W.Fast.tw10110043849684766642 PySem.W.Fast.tw14364793385576792824 PySem.Challenge.pw_xw0342_01 1098 S6 S7 54 12 pos6 pos7 := by intro w os; kernel_rfl
set_option maxHeartbeats 0 in
theorem pcQ8 : Piece PySem.W.Fast.tw10110043849684766642 PySem.W.Fast.tw14364793385576792824 PySem.Challenge.pw_xw0342_01 539 S7 S8 66 18 pos7 pos8 := by intro w os; kernel_rfl
theorem body_is : behindTheImports PySem.Challenge.pw_xw0342_01 = slice PySem.Challenge.pw_xw0342_01 0 12 ++ (slice PySem.Challenge.pw_xw0342_01 12 5 ++ (slice PySem.Challenge.pw_xw0342_01 17 4 ++ (slice PySem.Challenge.pw_xw0342_01 21 3 ++ (slice PySem.Challenge.pw_xw0342_01 24 2 ++ (slice PySem.Challenge.pw_xw0342_01 26 28 ++ (slice PySem.Challenge.pw_xw0342_01 54 12 ++ (slice PySem.Challenge.pw_xw0342_01 66 18 ++ []))))))) := by kernel_rfl
/-! ## the run whole -/
noncomputable def heap1 (P : Params) : Heap := ⟨⟨[k0_0 PySem.Challenge.pw_xw0342_01 P, k1_0 PySem.Challenge.pw_xw0342_01 P, k2_0 PySem.Challenge.pw_xw0342_01 P, k3_0 PySem.Challenge.pw_xw0342_01 P, k4_0 PySem.Challenge.pw_xw0342_01 P, k5_0 PySem.Challenge.pw_xw0342_01 P, k6_0 PySem.Challenge.pw_xw0342_01 P, k7_0 PySem.Challenge.pw_xw0342_01 P, k8_0 PySem.Challenge.pw_xw0342_01 P, k9_0 PySem.Challenge.pw_xw0342_01 P, k10_0 PySem.Challenge.pw_xw0342_01 P, k11_0 PySem.Challenge.pw_xw0342_01 P, k12_0 PySem.Challenge.pw_xw0342_01 P, k13_0 PySem.Challenge.pw_xw0342_01 P, k14_0 PySem.Challenge.pw_xw0342_01 P]⟩, {}⟩
theorem pre_go (w : World) (os : OsState) : topGo treeTable PySem.Challenge.pw_xw0342_01 w 11 ann1 12 ⟨boot_heap w.params, #[], boot_drawn, boot_toks, os⟩ (topStub PySem.Challenge.pw_xw0342_01) = some (⟨heap1 w.params, #[], {}, 187, os⟩, ⟨denote treeTable (cE PySem.Challenge.pw_xw0342_01), cE PySem.Challenge.pw_xw0342_01, pos0, [topFrame pos0]⟩) := by kernel_rfl
theorem block_go (w : World) (os : OsState) : segRun treeTable PySem.Challenge.pw_xw0342_01 w 11 ann1 1 1 ⟨heap1 w.params, #[], {}, 187, os⟩ (blockOf (behindTheImports PySem.Challenge.pw_xw0342_01) (envT PySem.Challenge.pw_xw0342_01) (cE PySem.Challenge.pw_xw0342_01) pos0 [topFrame pos0]) = some (.next, (S0 PySem.Challenge.pw_xw0342_01 w os).abs, cE PySem.Challenge.pw_xw0342_01, pos0) := by kernel_rfl
theorem fin_go (w : World) (os : OsState) : topRun treeTable PySem.Challenge.pw_xw0342_01 w 11 ann1 2 (S8 PySem.Challenge.pw_xw0342_01 w os).abs ⟨doneF .next, cE PySem.Challenge.pw_xw0342_01, pos8, [topFrame pos0]⟩ = some ⟨heapF PySem.Challenge.pw_xw0342_01 w.params, #[], {}, 1600, os⟩ := by kernel_rfl
/-! ## what is looked at behind the run -/
def lawN : Str := ⟨#[108, 97, 119]⟩
noncomputable def qv (p : Program) : Program := { p with main := { p.main with body := [st p 83 none] } }
noncomputable def q1 : Program := qv PySem.Challenge.pw_xw0342_01
def looseQ (bn : Program → List Str) (p : Program) : List Str := (bn p).filter fun n => !(n == lawN)
def loose1 : List Str := looseQ Program.boundNames PySem.Challenge.pw_xw0342_01
noncomputable def sF (p : Program) (w : World) (os : OsState) : Shared := ⟨heapF p w.params, #[], {}, 1600, os⟩
noncomputable def Looks1 (sn : type_of% openSeen) (bn : Program → List Str) (im : List Stmt → List Str) (p : Program) : Prop :=
  ∀ (w : World) (os : OsState), ((staticsOk (im p.main.body) (boot_heap w.params) (heapF p w.params) && namesBound p (heapF p w.params) && gensDone (sF p w os) && laidKept (boot_heap w.params) (heapF p w.params)),
    sn (qv p) (looseQ bn p) (im p.main.body) (fun s => xlAt (qv p) [] s && recOk [] s) true (sF p w os)) = (true, openGood (qv p) (looseQ bn p))
set_option maxHeartbeats 0 in
theorem looksQ : Looks1 PySem.W.Fast.tw4187177175401517315 PySem.W.Fast.tw18344453789297297638 PySem.W.Fast.tw5923862056798008813 PySem.Challenge.pw_xw0342_01 := by intro w os; kernel_rfl
theorem looks1 : Looks1 openSeen Program.boundNames importedModules PySem.Challenge.pw_xw0342_01 := by
  have h := looksQ
  rw [← PySem.W.Fast.te4187177175401517315, ← PySem.W.Fast.te18344453789297297638, ← PySem.W.Fast.te5923862056798008813] at h
  exact h
theorem looksK (w : World) : asK.map (heapF PySem.Challenge.pw_xw0342_01 w.params).get? = (KF w.params).map fun p => some p.2 := by kernel_rfl
abbrev pw : Program := PySem.Challenge.pw_xw0342_01
theorem run0 (w : World) (os : OsState) : ∃ M, Nat.ble M 10000 = true ∧ topRun treeTable pw w 11 ann1 M (S0 pw w os).abs (restOf (behindTheImports pw) (envT pw) (cE pw) pos0 [topFrame pos0]) = some (sF pw w os) := by
  have e : restOf (behindTheImports pw) (envT pw) (cE pw) pos0 [topFrame pos0] = restOf _ (envT pw) (cE pw) pos0 [topFrame pos0] := congrArg (fun l => restOf l (envT pw) (cE pw) pos0 [topFrame pos0]) body_is
  rw [e]
  refine ⟨_, ?_, piece_app (segRun_of (piece_back pcQ1 w os)) (piece_app (segRun_of (piece_back pcQ2 w os)) (piece_app (segRun_of (piece_back pcQ3 w os)) (piece_app (segRun_of (piece_back pcQ4 w os))
      (piece_app (segRun_of (piece_back pcQ5 w os)) (piece_app (segRun_of (piece_back pcQ6 w os)) (piece_app (segRun_of (piece_back pcQ7 w os)) (piece_app (segRun_of (piece_back pcQ8 w os)) (piece_nil (fin_go w os)))))))))⟩
  decide +kernel
theorem run1 (w : World) (os : OsState) : ∃ M, Nat.ble M 20000 = true ∧ topRun treeTable pw w 11 ann1 M ⟨boot_heap w.params, #[], boot_drawn, boot_toks, os⟩ (topStub pw) = some (sF pw w os) := by
  obtain ⟨M, hM, h⟩ := run0 w os
  exact ⟨12 + (1 + M), by have := Nat.le_of_ble_eq_true hM; exact Nat.ble_eq_true_of_le (by omega), go_top (pre_go w os) (piece_block (block_go w os) h)⟩
/-- the head out of a run whose end is looked at -/
theorem left_of {p q : Program} {loose : List Str} {Xt : Shared → Bool} {α : Type} {Yf : Shared → α} {Ya : World → α} {N : Nat} {g0 : Bool} {H₀ : Params → Heap} {gs₀ : Array GenState} {d₀ : Drawn} {k₀ : Nat} {m₀ : Nat} {ann : Option Value}
    (open_ : ∀ w : World, (fencedOpening treeTable p w N).map (fun s => (s.heap, s.gens, s.drawn, s.toks)) = some (H₀ w.params, gs₀, d₀, k₀))
    (size : ∀ w : World, ((H₀ w.params).isNs mainGlobals && gs₀.size == 0) = true ∧ (H₀ w.params).objs.size = m₀ ∧ (H₀ w.params).nsMap mainGlobals "__annotations__" = ann)
    (run : ∀ (w : World) (os : OsState), ∃ s₁ M, Nat.ble M N = true ∧ topRun treeTable p w m₀ ann M ⟨H₀ w.params, gs₀, d₀, k₀, os⟩ (topStub p) = some s₁ ∧
      (staticsOk (importedModules p.main.body) (H₀ w.params) s₁.heap && namesBound p s₁.heap && gensDone s₁ && laidKept (H₀ w.params) s₁.heap) = true ∧
      openSeen q loose (importedModules p.main.body) Xt g0 s₁ = openGood q loose ∧ Yf s₁ = Ya w) : LeftO p q loose Xt Yf Ya N g0 := by
  intro w
  have h0 := open_ w
  cases hs : fencedOpening treeTable p w N with
  | none => rw [hs] at h0; cases h0
  | some s =>
    rw [hs] at h0
    obtain ⟨hp, gn, dr, tk, os⟩ := s
    have e0 := Option.some.inj h0
    have e1 : hp = H₀ w.params := congrArg Prod.fst e0
    have e2 : gn = gs₀ := congrArg (fun x => x.2.1) e0
    have e3 : dr = d₀ := congrArg (fun x => x.2.2.1) e0
    have e4 : tk = k₀ := congrArg (fun x => x.2.2.2) e0
    subst e1 e2 e3 e4
    obtain ⟨z1, z2, z3⟩ := size w
    obtain ⟨s₁, M, hM, hr, hl, ho, hy⟩ := run w os
    have hr' := topRun_mono (N - M) _ _ _ _ hr
    have hMN : M + (N - M) = N := by have := Nat.le_of_ble_eq_true hM; omega
    rw [hMN, ← z2, ← z3] at hr'
    have ht : topFrom treeTable p w N ⟨H₀ w.params, gn, dr, tk, os⟩ = some s₁ := by
      simp only [topFrom, z1, hr', Option.bind_some, hl]
    simp only [openEnds, hs, Option.bind_some, ht, Option.map_some, ho, hy]
theorem left1 : LeftO pw q1 loose1 (fun s => xlAt q1 [] s && recOk [] s) (Hook.obs HK) (Hook.val HK) 20000 :=
  left_of (boot_open (by kernel_rfl) (by decide) (fun s => by kernel_rfl)) (m₀ := 11) (ann := ann1) (fun w => ⟨by kernel_rfl, by kernel_rfl, by kernel_rfl⟩) fun w os => by
    obtain ⟨M, hM, h⟩ := run1 w os
    have l := looks1 w os
    exact ⟨sF pw w os, M, hM, h, congrArg Prod.fst l, congrArg Prod.snd l, looksK w⟩
/-! ## the looks at the text, each by itself -/
theorem ctx0 : (!(importedModules Challenge.rw_xw0342_01.row.prog.main.body).all cThrough.contains) = false := by decide +kernel
set_option maxHeartbeats 0 in
theorem ctx1 : List.filter (readsOut Challenge.rw_xw0342_01.row.prog Challenge.rw_xw0342_01.row.prog.main.body) [Str.ofString "vars", Str.ofString "dir", Str.ofString "locals"] = [] := by
  rw [PySem.W.Fast.te13343964577679436407]; decide +kernel
set_option maxHeartbeats 0 in
theorem law_said : OpenLaw.wellSaid PySem.Challenge.rw_xw0342_01 = true := by
  unfold OpenLaw.wellSaid
  (repeat' with_reducible refine look_both ?_ ?_)
  all_goals (try unfold OpenRow.wellSaid)
  all_goals (repeat' with_reducible refine look_both ?_ ?_)
  all_goals (try unfold OpenRow.partSaid)
  all_goals (repeat' with_reducible refine look_both ?_ ?_)
  all_goals (try unfold looksOpen)
  all_goals (repeat' with_reducible refine look_both ?_ ?_)
  all_goals (try rw [ctx0, ctx1])
  all_goals (try rw [PySem.W.Fast.te8377067652309620493])
  all_goals (try rw [PySem.W.Fast.te17119622794617984870])
  all_goals (try rw [PySem.W.Fast.te8326940854005059898])
  all_goals decide +kernel
set_option maxHeartbeats 0 in
theorem law_ok : (chainsOk q1 && opensWell PySem.Challenge.rw_xw0342_01.row.prog && (frees PySem.Challenge.rw_xw0342_01.row.toRowW && PySem.Challenge.rw_xw0342_01.row.within.isEmpty)) = true := by
  refine look_both (look_both ?_ ?_) ?_ <;> decide +kernel
theorem law_asked : PySem.Challenge.rw_xw0342_01.row.toRowW.promised := by w_witness2
set_option maxHeartbeats 0 in
theorem law_bare : PySem.Challenge.rw_xw0342_01.row.prog.bare := ⟨rfl, rfl, rfl, rfl, rfl, by decide +kernel⟩
open PySem.Spec
theorem fill_it (P : Params) : KF P = KF P ∧ PySem.Challenge.rw_xw0342_01 = PySem.Challenge.rw_xw0342_01 := by
  k_fill
  exact ⟨rfl, rfl⟩
/-! base -/
section
variable {w : World} {mean : ExcName → Option Value} {mg mb : Str → Option Value} {dp un : Nat} {gd : Option (List Code)} {cn : Str} {cs : Scope} {a : Addr} {ccd : Value} {cl : List (Str × Addr)} {outer : List Env} {A₀ : Around} {base h₀ : Heap}
  {L : Addr} {m : Str → Option Value} {rest : List (Addr × Obj)} {s : Shared} {Q E : Value → Shared → Prop}
/-- what stands at a call: the frames below, the caller's frame, the written part, the top -/
structure Cx (w : World) (mean : ExcName → Option Value) (mg mb : Str → Option Value) (cs : Scope) (outer : List Env) (A₀ : Around) (base h₀ : Heap) (L : Addr) (m : Str → Option Value) (h : Heap) : Prop where
  B : Below A₀ base outer h₀
  F : Fr h₀ L h m
  X : (KF w.params).In h₀
  T : Top q1 (looseW q1 loose1) mean mg mb h₀
  hk : cs.kind = .function
/-- an entry of a ledger, and what is left -/
inductive Pick : List (Addr × Obj) → Addr × Obj → List (Addr × Obj) → Prop
  | head {e r} : Pick (e :: r) e r
  | tail {x e l r} : Pick l e r → Pick (x :: l) e (x :: r)
theorem Pick.mem {l r : List (Addr × Obj)} {e : Addr × Obj} (p : Pick l e r) : e ∈ l ∧ ∀ x ∈ r, x ∈ l := by
  induction p with
  | head => exact ⟨.head _, fun _ h => .tail _ h⟩
  | tail _ ih => exact ⟨.tail _ ih.1, fun x h => by
      cases h with
      | head => exact .head _
      | tail _ h => exact .tail _ (ih.2 x h)⟩
theorem news_c {l r : List (Addr × Obj)} {e : Addr × Obj} {h : Heap} (p : Pick l e r) (N : News h₀ L h l) : News h₀ L h (e :: r) := fun x hx => by
  cases hx with
  | head => exact N _ p.mem.1
  | tail _ hx => exact N _ (p.mem.2 x hx)
theorem news_cc {l r o : List (Addr × Obj)} {e : Addr × Obj} {h : Heap} (p : Pick l e r) (N : News h₀ L h l) (k : News h₀ L h r → News h₀ L h o) : News h₀ L h (e :: o) := fun x hx => by
  cases hx with
  | head => exact N _ p.mem.1
  | tail _ hx => exact k (fun y hy => N y (p.mem.2 y hy)) x hx
theorem allLt_ne {d : Addr} : ∀ {l : List (Addr × Obj)}, AllLt d l → ∀ p ∈ l, p.1 ≠ d
  | [], _, _, h => nomatch h
  | q :: r, h, p, hp => by
    rcases List.mem_cons.mp hp with rfl | hp
    · exact Nat.ne_of_lt h.1
    · exact allLt_ne h.2 p hp
theorem unr_pick {I : Addr} {it : Obj} {cont : (Str → Option Value) → List (Addr × Obj) → Prop} {s₁ : Shared} {h' : Heap} {tk : Nat} {m' : Str → Option Value} {all r : List (Addr × Obj)} (F : Fr h₀ L h' m') (N : News h₀ L h' all)
    (P : Pick all (I, it) r) (off : ∀ p ∈ r, p.1 ≠ I) (k : cont m' r) : UnrEnd h₀ L s₁ I it cont { s₁ with heap := h', toks := tk } :=
  UnrEnd.intro F N r (fun p hp => by
    rcases List.mem_cons.mp hp with rfl | hp
    · exact P.mem.1
    · exact P.mem.2 p hp) off k
/-- a ledger whose tail is one thing -/
inductive Split : List (Addr × Obj) → List (Addr × Obj) → List (Addr × Obj) → Prop
  | nil {l} : Split l [] l
  | app {r l} : Split (r ++ l) r l
  | cons {x l f t} : Split l f t → Split (x :: l) (x :: f) t
theorem Split.eq {l f t : List (Addr × Obj)} (x : Split l f t) : l = f ++ t := by
  induction x with
  | nil => rfl
  | app => rfl
  | cons _ ih => rw [ih]; rfl
theorem ap_nil {t : List (Addr × Obj)} : ∀ q ∈ ([] : List (Addr × Obj)), ∀ p ∈ t, p.1 ≠ q.1 := fun _ h => nomatch h
theorem ap_cons {t f : List (Addr × Obj)} {a : Addr} {o : Obj} (h : ∀ p ∈ t, p.1 ≠ a) (k : ∀ q ∈ f, ∀ p ∈ t, p.1 ≠ q.1) : ∀ q ∈ (a, o) :: f, ∀ p ∈ t, p.1 ≠ q.1 := fun q hq => by
  rcases List.mem_cons.mp hq with rfl | hq
  · exact h
  · exact k q hq
theorem all_app {a b : List (Addr × Obj)} {d : Addr} (h : ∀ p ∈ a, p.1 ≠ d) (k : ∀ p ∈ b, p.1 ≠ d) : ∀ p ∈ a ++ b, p.1 ≠ d := fun p hp => (List.mem_append.mp hp).elim (h p) (k p)
/-- a part of a ledger -/
inductive Sb : List (Addr × Obj) → List (Addr × Obj) → Prop
  | refl {r} : Sb r r
  | skip {x r l} : Sb r l → Sb r (x :: l)
  | cons {e r l} : e ∈ l → Sb r l → Sb (e :: r) l
theorem Sb.sub {r l : List (Addr × Obj)} (x : Sb r l) : ∀ p ∈ r, p ∈ l := by
  induction x with
  | refl => exact fun _ h => h
  | skip _ ih => exact fun p h => .tail _ (ih p h)
  | cons he _ ih =>
    intro p h
    cases h with
    | head => exact he
    | tail _ h => exact ih p h
theorem Sb.capp {a : Addr × Obj} {l t x : List (Addr × Obj)} (h : Sb (a :: (l ++ t)) x) : Sb ((a :: l) ++ t) x := h
theorem news_w {l r : List (Addr × Obj)} {h : Heap} (N : News h₀ L h l) (x : Sb r l) : News h₀ L h r := fun p hp => N p (x.sub p hp)
theorem unrw_pick {I : Addr} {it : Obj} {cont : (Str → Option Value) → List (Addr × Obj) → Prop} {s₁ : Shared} {h' : Heap} {tk : Nat} {m' : Str → Option Value} {all r : List (Addr × Obj)} (F : Fr h₀ L h' m') (N : News h₀ L h' all)
    (P : Pick all (I, it) r) (off : ∀ p ∈ r, p.1 ≠ I) (k : cont m' r) : UnrEndW h₀ L s₁ [(I, it)] cont { s₁ with heap := h', toks := tk } :=
  ⟨h', tk, m', r, rfl, F, news_c P N, fun p hp q hq => by rw [List.mem_singleton.mp hq]; exact off p hp, k⟩
theorem tup2_turns {prog : Program} {w : World} {A : Around} {env : Env} {target : PySem.Expr} {body : List Stmt} {Q : Flow → Shared → Prop} {ax : Addr} {v1 v2 : Value} {n : Nat} {m₀ : Str → Option Value} {news : List (Addr × Obj)}
    (hh : A.handled = none) (F : Fr h₀ env.locals s.heap m₀) (N : News h₀ env.locals s.heap news) (hm : (ax, ({ cls := .type "tuple", data := .seq [v1, v2].toArray n } : Obj)) ∈ news)
    (k : ∀ I : Addr, (∀ p ∈ news, p.1 < I) → ItemsRest prog w A E h₀ env target body Q s [(I, "tuple_iterator")] [(ax, ({ cls := .type "tuple", data := .seq [v1, v2].toArray n } : Obj))] [.val v1, .val v2] m₀ news) :
    wpAny (model prog w) A (pyIter (.ref ax)) (fun it s₂ => TurnsAt prog w A h₀ env target body Q E it s₂) E s :=
  iter_tupTurns (vs := [v1, v2]) hh F N hm rfl rfl k
theorem in_keeps {K : Frag} {h : Heap} (F : Fr h₀ L h m) (X : K.In h₀) : K.In h := X.keeps F.keep
theorem under_ktr {f : Addr} {r : List Value} : (ktrTop dp un gd cn cs L a ccd cl outer).under (Code.builtin "type.__call__" { pos := Value.ref f :: r }) = ktrTop (dp + 1) (un + 1) (pushGuards (Code.builtin "type.__call__" { pos := Value.ref f :: r }).guards gd) cn cs L a ccd cl outer := by
  unfold Around.under
  rfl
theorem all_right {a b : List (Addr × Obj)} {d : Addr} (h : ∀ p ∈ a ++ b, p.1 ≠ d) : ∀ p ∈ b, p.1 ≠ d := fun p hp => h p (List.mem_append_right _ hp)
/-- what a part of a ledger asks -/
def Sl (l o : List (Addr × Obj)) : Prop := ∀ p ∈ o, p ∈ l
theorem sl_refl {l : List (Addr × Obj)} : Sl l l := fun _ h => h
theorem sl_cons {l r o : List (Addr × Obj)} {e : Addr × Obj} (p : Pick l e r) (k : Sl r o) : Sl l (e :: o) := fun x hx => by
  cases hx with
  | head => exact p.mem.1
  | tail _ hx => exact p.mem.2 x (k x hx)
theorem sl_split {l f t : List (Addr × Obj)} (s : Split l f t) : Sl l (f ++ t) := fun x hx => s.eq ▸ hx
theorem sl_news {l o : List (Addr × Obj)} {h : Heap} (N : News h₀ L h l) (s : Sl l o) : News h₀ L h o := fun p hp => N p (s p hp)
/-- two ledgers whose addresses differ -/
def Ap (l WT : List (Addr × Obj)) : Prop := ∀ q ∈ l, ∀ p ∈ WT, p.1 ≠ q.1
/-- an address that a ledger does not hold -/
def Off (d : Addr) (l : List (Addr × Obj)) : Prop := ∀ p ∈ l, p.1 ≠ d
theorem lt_mem {d : Nat} : ∀ {l : List (Addr × Obj)}, AllLt d l → ∀ p ∈ l, @LT.lt Nat _ p.1 d
  | [], _, _, h => nomatch h
  | _ :: _, h, p, hp => by
    rcases List.mem_cons.mp hp with rfl | hp
    · exact h.1
    · exact lt_mem h.2 p hp
theorem lt_in {a d : Addr} {o : Obj} {l : List (Addr × Obj)} (h : AllLt d l) (m : (a, o) ∈ l) : @LT.lt Nat _ a d := lt_mem h _ m
theorem lt_sub {d : Addr} {l r : List (Addr × Obj)} (h : AllLt d l) (s : Sb r l) : AllLt d r := allLt_of fun p hp => lt_mem h p (s.sub p hp)
theorem ne_lt {a d : Addr} {o : Obj} {l : List (Addr × Obj)} (h : AllLt d l) (m : (a, o) ∈ l) : @Ne Nat a d := Nat.ne_of_lt (lt_mem h _ m)
theorem ne_gt {a d : Addr} {o : Obj} {l : List (Addr × Obj)} (h : AllLt d l) (m : (a, o) ∈ l) : @Ne Nat d a := Nat.ne_of_gt (lt_mem h _ m)
theorem ne_off {a d : Addr} {o : Obj} {l : List (Addr × Obj)} (h : Off d l) (m : (a, o) ∈ l) : @Ne Nat a d := h _ m
theorem ne_foo {a d : Addr} {o : Obj} {l : List (Addr × Obj)} (h : Off d l) (m : (a, o) ∈ l) : @Ne Nat d a := fun e => h _ m e.symm
theorem all_lt {d : Addr} {l r : List (Addr × Obj)} (h : AllLt d l) (s : Sb r l) : ∀ p ∈ r, p.1 ≠ d := fun p hp => Nat.ne_of_lt (lt_mem h p (s.sub p hp))
theorem all_off {d : Addr} {l r : List (Addr × Obj)} (h : Off d l) (s : Sb r l) : ∀ p ∈ r, p.1 ≠ d := fun p hp => h p (s.sub p hp)
/-- tokens as a function -/
noncomputable def tkL : List Tok → Nat → Tok
  | [], _ => 0
  | a :: _, 0 => a
  | _ :: r, i + 1 => tkL r i
/-- addresses, the newest first, the eldest named -/
def Srt (d : Nat) (l : List Nat) : Prop := l.Pairwise (fun a b => b < a) ∧ ∀ a ∈ l, d ≤ a
theorem srt_nil {a : Nat} : Srt a [a] := ⟨List.pairwise_singleton _ _, fun x hx => Nat.le_of_eq (List.mem_singleton.mp hx).symm⟩
theorem srt_cons {a b d : Nat} {l : List Nat} (h : @LT.lt Nat _ b a) (s : Srt d (b :: l)) : Srt d (a :: b :: l) := ⟨List.Pairwise.cons (fun x hx => by
  rcases List.mem_cons.mp hx with rfl | hx
  · exact h
  · exact Nat.lt_trans ((List.pairwise_cons.mp s.1).1 x hx) h) s.1, fun x hx => by
  rcases List.mem_cons.mp hx with rfl | hx
  · exact Nat.le_trans (s.2 b (.head _)) (Nat.le_of_lt h)
  · exact s.2 x hx⟩
/-- one stands before the other -/
inductive Bf (a b : Nat) : List Nat → Prop
  | here {r} : b ∈ r → Bf a b (a :: r)
  | skip {x r} : Bf a b r → Bf a b (x :: r)
theorem bf_lt {a b : Nat} {l : List Nat} (s : l.Pairwise (fun a b => b < a)) (h : Bf a b l) : b < a := by
  induction h with
  | here hb => exact (List.pairwise_cons.mp s).1 _ hb
  | skip _ ih => exact ih (List.pairwise_cons.mp s).2
theorem srt_lt {a b d : Nat} {l : List Nat} (s : Srt d l) (h : Bf a b l) : b < a := bf_lt s.1 h
theorem srt_ne {a b d : Nat} {l : List Nat} (s : Srt d l) (h : Bf a b l) : a ≠ b := Nat.ne_of_gt (srt_lt s h)
theorem srt_en {a b d : Nat} {l : List Nat} (s : Srt d l) (h : Bf b a l) : a ≠ b := Nat.ne_of_lt (srt_lt s h)
theorem ne_top {x a d : Nat} {o : Obj} {l : List (Addr × Obj)} {A : List Nat} (s : Srt d A) (h : AllLt d l) (b : a ∈ A) (m : (x, o) ∈ l) : x ≠ a := Nat.ne_of_lt (Nat.lt_of_lt_of_le (lt_mem h _ m) (s.2 a b))
theorem ne_pot {x a d : Nat} {o : Obj} {l : List (Addr × Obj)} {A : List Nat} (s : Srt d A) (h : AllLt d l) (b : a ∈ A) (m : (x, o) ∈ l) : a ≠ x := (ne_top s h b m).symm
theorem all_srt {d e : Nat} {l r : List (Addr × Obj)} {A : List Nat} (s : Srt d A) (h : AllLt d l) (b : e ∈ A) (x : Sb r l) : ∀ p ∈ r, p.1 ≠ e := fun p hp => Nat.ne_of_lt (Nat.lt_of_lt_of_le (lt_mem h p (x.sub p hp)) (s.2 e b))
theorem off_at {d : Addr} {l : List (Addr × Obj)} (h : Off d l) : ∀ p ∈ l, p.1 ≠ d := h
theorem ap_at {l WT : List (Addr × Obj)} {a : Addr} {o : Obj} (h : Ap l WT) (m : (a, o) ∈ l) : ∀ p ∈ WT, p.1 ≠ a := h _ m
theorem ap_sub {l r WT : List (Addr × Obj)} (h : Ap l WT) (s : Sb r l) : ∀ q ∈ r, ∀ p ∈ WT, p.1 ≠ q.1 := fun q hq => h q (s.sub q hq)
theorem ap_mk {l WT : List (Addr × Obj)} (h : ∀ q ∈ l, ∀ p ∈ WT, p.1 ≠ q.1) : Ap l WT := h
theorem off_mk {d : Addr} {l : List (Addr × Obj)} (h : ∀ p ∈ l, p.1 ≠ d) : Off d l := h
theorem lt_tail2 {d : Nat} {a b : Addr × Obj} {l : List (Addr × Obj)} (h : AllLt d (a :: b :: l)) : AllLt d l := h.2.2
theorem sb_right {r : List (Addr × Obj)} : ∀ {l : List (Addr × Obj)}, Sb r (l ++ r)
  | [] => .refl
  | _ :: _ => .skip sb_right
theorem sb_left {l : List (Addr × Obj)} : ∀ {r : List (Addr × Obj)}, Sb r (r ++ l)
  | [] => by
    induction l with
    | nil => exact .refl
    | cons _ _ ih => exact .skip ih
  | _ :: _ => .cons (.head _) (.skip sb_left)
theorem room0 {d e k R : Nat} (h : d + k < R) (x : e = d) : e < R := x ▸ Nat.lt_of_le_of_lt (Nat.le_add_right d k) h
theorem roomS {d k t R : Nat} (h : d + k < R) (y : t ≤ k) : d + t < R := Nat.lt_of_le_of_lt (Nat.add_le_add_left y d) h
theorem room1 {d e a k R : Nat} (h : d + k < R) (x : e = d) (y : a ≤ k) : e + a < R := x ▸ roomS h y
theorem room2 {d e a b k R : Nat} (h : d + k < R) (x : e = d) (y : a + b ≤ k) : e + a + b < R := x ▸ Nat.add_assoc d a b ▸ roomS h y
theorem room3 {d e a b c k R : Nat} (h : d + k < R) (x : e = d) (y : a + b + c ≤ k) : e + a + b + c < R := by
  rw [x, Nat.add_assoc, Nat.add_assoc, ← Nat.add_assoc a]
  exact roomS h y
theorem room4 {d e a b c f k R : Nat} (h : d + k < R) (x : e = d) (y : a + b + c + f ≤ k) : e + a + b + c + f < R := by
  rw [x, Nat.add_assoc d, Nat.add_assoc d, Nat.add_assoc d]
  exact roomS h y
theorem room5 {d e a b c f g k R : Nat} (h : d + k < R) (x : e = d) (y : a + b + c + f + g ≤ k) : e + a + b + c + f + g < R := by
  rw [x, Nat.add_assoc d, Nat.add_assoc d, Nat.add_assoc d, Nat.add_assoc d]
  exact roomS h y
/-- where a contract takes the walk over -/
def Stopped (p : Prop) : Prop := p
theorem stopped {p : Prop} (h : Stopped p) : p := h
/-- the functions that have a contract -/
def hasCt (a : Nat) : Bool := [975, 982, 374, 367, 311, 318, 529, 276, 297, 346, 585, 796, 782, 803, 947, 954, 884, 741, 755, 898, 844, 153, 475, 433, 244, 377, 855, 666, 823, 663, 321, 716, 808, 987, 994, 1001, 968, 887, 905].contains a
theorem stoppedC {M : Model} {A : Around} {E : Value → Shared → Prop} {s : Shared} {Q : Value → Shared → Prop} {a : Nat} {pos : List Value} {kw : List (Str × Value)} (_ : hasCt a = true) (p : Stopped (wpAny M A (call (.ref a) pos kw) Q E s)) : wpAny M A (call (.ref a) pos kw) Q E s := p
section
variable {prog : Program} {w : World} {A : Around} {E : Value → Shared → Prop} {s : Shared} {K : Frag} {C o d L a : Addr} {h₀ : Heap} {m : Str → Option Value} {news news' : List (Addr × Obj)} {es es' : List DictEntry} {n n' : Nat} {x name : Str} {v : Value} {sl : Array (Option Value)} {cn : Str} {cs : Scope} {ccd : Value} {cl : List (Str × Addr)} {xp pos : Pos}
theorem fa_get {Q : Value → Shared → Prop} {attr : Option Value} (F : Fr h₀ L s.heap m) (X₀ : K.In h₀) (N : News h₀ L s.heap news) (hv : m x = some (.ref o)) (h1 : (o, (⟨.ref C, some d, .plain, sl⟩ : Obj)) ∈ news) (h2 : (d, dictOf es n) ∈ news)
    (hg : plainGet K C name = true) (hh : hasDictIn K C = true) (ha : findIn K (.ref C) name = some attr) (hn : noGet K attr = true) (hl : getL name es = some (some v)) (hv' : handedIn v = true)
    (hk : cs.kind = .function) (hx : (envX cn cs L a ccd cl).kindOf x = some .local) (hd : (x == ("__debug__" : Str)) = false) (h : Q v { s with toks := s.toks + 1 }) :
    wpAny (model prog w) A (eval (.Attribute (.Name x xp) name pos) (envX cn cs L a ccd cl)) Q E s :=
  Attribute_Name_ (nameX_L F hv (get_own F X₀ (InstAt.of_news N h1 h2) hg hh ha hn hl hv' h) hk hx hd)
end
end

local macro_rules | `(tactic| regTopObj_mem) => `(tactic| ((repeat (first | exact List.Mem.head _ | apply List.Mem.tail)); done))
local macro_rules | `(tactic| k_mem) => `(tactic| regTopObj_mem)

local macro_rules | `(tactic| k_all) => `(tactic| with_reducible assumption)
local macro_rules | `(tactic| o_inst) => `(tactic| k_dflt first | exact room0 (by assumption) (by rfl) | exact room1 (by assumption) (by rfl) (by decide) | exact room2 (by assumption) (by rfl) (by decide) | exact room3 (by assumption) (by rfl) (by decide) | exact room4 (by assumption) (by rfl) (by decide) | exact room5 (by assumption) (by rfl) (by decide))
local macro_rules | `(tactic| ktr_room) => `(tactic| first | o_inst | ((simp only [depth_under_make, depth_under_kw, depth_in1, depth_deeper, depth_caller]); o_inst))
local macro_rules | `(tactic| ktr_units) => `(tactic| first | o_inst | ((simp only [units_in1, units_deeper, Around.mark_units, units_caller]); o_inst))
local macro_rules | `(tactic| k_room) => `(tactic| ktr_room)
local macro_rules | `(tactic| k_units) => `(tactic| ktr_units)
local macro_rules | `(tactic| k_all) => `(tactic| exact allLt_ne (by with_reducible assumption))
local macro_rules | `(tactic| walk_at "UnrEnd") => `(tactic| (refine' unr_pick ?F ?N ?P ?O ?_; (case F => assumption); (case N => assumption); (case P => repeat (first | exact Pick.head | apply Pick.tail)); (case O => k_all); k_whole))
local macro_rules | `(tactic| walk_at "UnrEndW") => `(tactic| (refine' unrw_pick ?F ?N ?P ?O ⟨⟨?M, trivial⟩, ?_⟩; (case F => assumption); (case N => assumption); (case P => repeat (first | exact Pick.head | apply Pick.tail)); (case O => k_all); (case M => regTopObj_mem)))
local macro_rules | `(tactic| walk_at "pyIter ref") => `(tactic| (k_here; (with_reducible show wpAny _ _ (pyIter (Value.ref _)) (fun it s₂ => TurnsAt _ _ _ _ _ _ _ _ _ it s₂) _ _); (rename Fr _ _ _ _ => lF'); (rename News _ _ _ _ => lN'); (with_unfolding_all refine tup2_turns (by rfl) lF' lN' (by k_mem) ?_); clear lF'; intro i' l1; (try k_lt l1)))
local macro_rules | `(tactic| k_all) => `(tactic| (refine all_app ?a ?b; (case a => k_all); (case b => k_all)))
local macro_rules | `(tactic| k_all) => `(tactic| with_reducible assumption)
local macro_rules | `(tactic| k_in) => `(tactic| ((with_reducible refine' in_keeps ?F9 ?X9); (case F9 => with_reducible assumption); (case X9 => with_reducible assumption)))
local macro_rules | `(tactic| k_in) => `(tactic| with_reducible assumption)
local macro_rules | `(tactic| walk_at "zC") => `(tactic| first | exact ⟨by k_asm, by k_asm, by k_asm, by k_asm, by first | exact rfl | assumption⟩ | fail)
local macro_rules | `(tactic| walk_at "zS") => `(tactic| first | (with_reducible exact sl_refl) | (refine' sl_split ?s; (case s => ((repeat apply Split.cons); first | exact Split.app | exact Split.nil))) | (refine' sl_cons ?p ?k; (case p => repeat (first | exact Pick.head | apply Pick.tail)); (case k => walk_at "zS")))
local macro_rules | `(tactic| walk_at "zN") => `(tactic| (refine' sl_news (by k_asm) ?s; (case s => walk_at "zS")))
local macro_rules | `(tactic| walk_at "zD") => `(tactic| repeat' (first | k_ne | refine And.intro ?_ ?_))
local macro_rules | `(tactic| walk_at "zK") => `(tactic| first | k_all | fail)
local macro_rules | `(tactic| walk_at "zO") => `(tactic| first | assumption | omega)
local macro_rules | `(tactic| k_lt $h) => `(tactic| (try replace $h := allLt_of $h))
local macro_rules | `(tactic| o_recAt) => `(tactic| ((repeat apply Sb.skip); first | exact Sb.refl | exact sb_left | exact sb_right))
local macro_rules | `(tactic| regTopObjA_mem) => `(tactic| ((repeat (first | (refine' Bf.here ?m; (case m => regTopObj_mem)) | apply Bf.skip)); done))
local macro_rules | `(tactic| k_ne) => `(tactic| (refine neN ?_; (try dsimp only); first
  | (with_reducible first | assumption | exact Nat.ne_of_lt (by assumption) | exact Nat.ne_of_gt (by assumption) | exact Ne.symm (by assumption))
  | (refine' ne_lt ?h ?m; (case h => with_reducible assumption); (case m => regTopObj_mem)) | (refine' ne_gt ?h ?m; (case h => with_reducible assumption); (case m => regTopObj_mem))
  | (refine' ne_off ?h ?m; (case h => with_reducible assumption); (case m => regTopObj_mem)) | (refine' ne_foo ?h ?m; (case h => with_reducible assumption); (case m => regTopObj_mem))
  | (refine' srt_ne ?h ?m; (case h => with_reducible assumption); (case m => regTopObjA_mem)) | (refine' srt_en ?h ?m; (case h => with_reducible assumption); (case m => regTopObjA_mem))
  | (refine' ne_top ?s ?h ?b ?m; (case s => with_reducible assumption); (case h => with_reducible assumption); (case b => regTopObj_mem); (case m => regTopObj_mem)) | (refine' ne_pot ?s ?h ?b ?m; (case s => with_reducible assumption); (case h => with_reducible assumption); (case b => regTopObj_mem); (case m => regTopObj_mem))
  | omega | ((simp only [AllLt, and_true] at *); omega)))
local macro_rules | `(tactic| k_all) => `(tactic| first | with_reducible assumption | exact off_at (by with_reducible assumption) | (refine' ap_at ?h ?m; (case h => with_reducible assumption); (case m => regTopObj_mem)) | (refine' all_lt ?h ?s; (case h => with_reducible assumption); (case s => o_recAt)) | (refine' all_off ?h ?s; (case h => with_reducible assumption); (case s => o_recAt)) | (refine' all_srt ?r ?h ?b ?s; (case r => with_reducible assumption); (case h => with_reducible assumption); (case b => regTopObj_mem); (case s => o_recAt)) | fail)
local macro_rules | `(tactic| walk_at "zA") => `(tactic| first | with_reducible assumption | with_reducible exact ap_nil | (refine' ap_cons ?a ?b; (case a => k_all); (case b => walk_at "zA")) | (refine' ap_sub ?h ?s; (case h => with_reducible assumption); (case s => o_recAt)) | fail)
set_option hygiene false in
local macro_rules | `(tactic| walk_at "zE") => `(tactic| ((replace hA3W := ap_mk hA3W); (try dsimp only [List.cons_append, List.nil_append] at N'); (try dsimp only)))
local macro_rules | `(tactic| walk_at "eval Attribute Name") => `(tactic| (k_here; k_dflt (refine' fa_get ?k1 ?k2 ?k3 ?kv ?h1 ?h2 ?k4 ?k5 ?k6 ?k7 ?k8 ?k9 ?a ?b ?c ?_; (case k1 => k_asm); (case k2 => k_asm); (case k3 => k_asm); (case a => first | rfl | assumption); (case b => rfl); (case kv => rfl); (case h1 => regTopObj_mem); (case h2 => regTopObj_mem); (case k4 => k_is); (case k5 => k_is); (case k6 => k_is); (case k7 => k_is); (case k8 => k_get); (case k9 => k_handed); (case c => decide); k_whole)))
local macro_rules | `(tactic| walk_at "call ref") => `(tactic| (k_here; k_dflt (refine stoppedC (by rfl) ?_)))
/-! blk -/
section
variable {w : World} {mean : ExcName → Option Value} {mg mb : Str → Option Value} {dp un : Nat} {gd : Option (List Code)} {cn : Str} {cs : Scope} {a : Addr} {ccd : Value} {cl : List (Str × Addr)} {outer : List Env} {A₀ : Around} {base h₀ : Heap}
  {L : Addr} {m : Str → Option Value} {rest : List (Addr × Obj)} {s : Shared} {Q E : Value → Shared → Prop}
/-- the entries that a block of stores makes -/
noncomputable def mkE (w : World) (B U : Nat → Tok) : Nat → List (Str × (Tok → Value)) → List DictEntry
  | _, [] => []
  | k, (n, f) :: r => ⟨PyData.keyHash w.params n, .str n (B k), f (U k)⟩ :: mkE w B U (k + 1) r
/-- names that no entry bears, and that differ -/
noncomputable def freshE (es : List DictEntry) : List Str → Bool
  | [] => true
  | n :: r => !(es.any fun e => e.key.isStr n) && !(es.any fun e => e.refKey) && !(r.any fun x => n == x) && freshE es r
theorem mkE_shift {w : World} {B U B' U' : Nat → Tok} : ∀ {l : List (Str × (Tok → Value))} {k j : Nat}, (∀ i, B' (k + i) = B (j + i)) → (∀ i, U' (k + i) = U (j + i)) → mkE w B' U' k l = mkE w B U j l
  | [], _, _, _, _ => rfl
  | (n, f) :: r, k, j, hb, hu => by
    unfold mkE
    rw [show B' k = B j from hb 0, show U' k = U j from hu 0, mkE_shift (l := r) (k := k + 1) (j := j + 1) (fun i => by rw [Nat.add_right_comm, Nat.add_right_comm j]; exact hb (i + 1)) (fun i => by rw [Nat.add_right_comm, Nat.add_right_comm j]; exact hu (i + 1))]
theorem freshE_cons {n : Str} {e : DictEntry} {t : Tok} (he : e.key = .str n t) : ∀ {es : List DictEntry} {r : List Str}, freshE es r = true → (r.any fun x => n == x) = false → freshE (es ++ [e]) r = true
  | _, [], _, _ => rfl
  | es, x :: r, h, hx => by
    unfold freshE at h ⊢
    simp only [Bool.and_eq_true, Bool.not_eq_true'] at h ⊢
    simp only [List.any_cons, Bool.or_eq_false_iff] at hx
    obtain ⟨⟨⟨h1, h2⟩, h3⟩, h4⟩ := h
    have hr : e.refKey = false := by
      unfold DictEntry.refKey
      rw [he]
    have hs : e.key.isStr x = false := by
      rw [he]
      exact hx.1
    refine ⟨⟨⟨?_, ?_⟩, h3⟩, freshE_cons he h4 hx.2⟩
    · simp [List.any_append, h1, hs]
    · simp [List.any_append, h2, hr]
theorem putL_new {name : Str} {hsh : Int} {key v : Value} : ∀ {es : List DictEntry}, (es.any fun e => e.key.isStr name) = false → putL name hsh key v es = es ++ [⟨hsh, key, v⟩]
  | [], _ => rfl
  | e :: r, h => by
    simp only [List.any_cons, Bool.or_eq_false_iff] at h
    unfold putL
    rw [if_neg (by rw [h.1]; exact Bool.false_ne_true), putL_new h.2]
    rfl
section
variable {prog : Program} {w : World} {A : Around} {E : Value → Shared → Prop} {K : Frag} {C o d L a : Addr} {h₀ : Heap} {m : Str → Option Value} {cn : Str} {cs : Scope} {ccd : Value} {cl : List (Str × Addr)}
/-- what a plain expression hands on -/
def EvF (prog : Program) (w : World) (A : Around) (env : Env) (L : Addr) (h₀ : Heap) (m : Str → Option Value) (e : PySem.Expr) (f : Tok → Value) : Prop :=
  ∀ (s : Shared) (Q E : Value → Shared → Prop), Fr h₀ L s.heap m → (∀ t tk, Q (f t) { s with toks := tk }) → wpAny (model prog w) A (eval e env) Q E s
theorem ev_loc {x : Str} {pos : Pos} {v : Value} (hv : m x = some v) (hk : cs.kind = .function) (hx : (envX cn cs L a ccd cl).kindOf x = some .local) (hd : (x == ("__debug__" : Str)) = false) : EvF prog w A (envX cn cs L a ccd cl) L h₀ m (.Name x pos) (fun _ => v) :=
  fun s _ _ F h => nameX_L F hv (h 0 s.toks) hk hx hd
theorem ev_glob {p : Program} {loose : List Str} {mg mb : Str → Option Value} {x : Str} {pos : Pos} {v : Value} (X : K.In h₀) (T : TopRead p loose mg mb h₀) (e : nsIn K mainGlobals x = some (some v)) (hk : cs.kind = .function) (hx : (envX cn cs L a ccd cl).kindOf x = some .globalImplicit) (hd : (x == ("__debug__" : Str)) = false) : EvF prog w A (envX cn cs L a ccd cl) L h₀ m (.Name x pos) (fun _ => v) :=
  fun s _ _ F h => nameX_K F X T e (h 0 s.toks) hk hx hd
theorem ev_int {env : Env} {i : Int} {k : Nat} {pos : Pos} : EvF prog w A env L h₀ m (.Constant (.int i) k pos) (fun t => .int i t) := fun s _ _ _ h => wpAny_Constant_int (h s.toks (s.toks + 1))
theorem ev_none {env : Env} {k : Nat} {pos : Pos} : EvF prog w A env L h₀ m (.Constant .none k pos) (fun _ => .none) := fun s _ _ _ h => wpAny_Constant_none (h 0 s.toks)
theorem ev_bool {env : Env} {b : Bool} {k : Nat} {pos : Pos} : EvF prog w A env L h₀ m (.Constant (.bool b) k pos) (fun _ => .bool b) := fun s _ _ _ h => wpAny_Constant_bool (h 0 s.toks)
theorem ev_bytes {env : Env} {b : List UInt8} {k : Nat} {pos : Pos} : EvF prog w A env L h₀ m (.Constant (.bytes b) k pos) (fun t => .bytes b.toArray t) := fun s _ _ _ h => Constant_bytes (h s.toks (s.toks + 1))
/-- a block of stores into `self` -/
inductive Blk (K : Frag) (C : Addr) (self : Str) (Ev : PySem.Expr → (Tok → Value) → Prop) (env : Env) : List Stmt → List (Str × (Tok → Value)) → List Stmt → Prop
  | nil {r : List Stmt} : Blk K C self Ev env r [] r
  | cons {e : PySem.Expr} {f : Tok → Value} {attr : Str} {p1 p2 pos : Pos} {r t : List Stmt} {l : List (Str × (Tok → Value))} (hs : swapsWith e (some (.Attribute (.Name self p1) attr p2)) pos.line env = pure false)
      (ht : takerIn K C attr = some none) (hv : Ev e f) (b : Blk K C self Ev env r l t) : Blk K C self Ev env (.Assign [.Attribute (.Name self p1) attr p2] e pos :: r) ((attr, f) :: l) t
theorem blk_run {self : Str} {stmts t : List Stmt} {l : List (Str × (Tok → Value))} {Q : Flow → Shared → Prop} (X₀ : K.In h₀) (hself : m self = some (.ref o)) (hsk : findIn K (.ref C) "__setattr__" = some (some (.builtin "object.__setattr__"))) (hp : plainOver K C = true) (hh : hasDictIn K C = true)
    (hk : cs.kind = .function) (hx : (envX cn cs L a ccd cl).kindOf self = some .local) (hd : (self == ("__debug__" : Str)) = false) {news : List (Addr × Obj)} (hod : @Ne Nat o d) (hnd : ∀ p ∈ news, p.1 ≠ d)
    (b : Blk K C self (EvF prog w A (envX cn cs L a ccd cl) L h₀ m) (envX cn cs L a ccd cl) stmts l t) : ∀ {es : List DictEntry} {n : Nat} {s : Shared}, Fr h₀ L s.heap m → News h₀ L s.heap ((o, instObj C d) :: (d, dictOf es n) :: news) → freshE es (l.map (·.1)) = true → es.length + l.length ≤ 1000 →
    (∀ B U h' tk', Fr h₀ L h' m → News h₀ L h' ((o, instObj C d) :: (d, dictOf (es ++ mkE w B U 0 l) (n + l.length)) :: news) → wpAny (model prog w) A (execs t (envX cn cs L a ccd cl)) Q E { s with heap := h', toks := tk' }) →
    wpAny (model prog w) A (execs stmts (envX cn cs L a ccd cl)) Q E s := by
  induction b with
  | nil =>
    intro es n s F N _ _ k
    have := k (fun _ => 0) (fun _ => 0) s.heap s.toks F (by simpa [mkE] using N)
    exact this
  | @cons e f attr p1 p2 pos r t l hs ht hv b ih =>
    intro es n s F N hf hl k
    simp only [List.map_cons, freshE, Bool.and_eq_true, Bool.not_eq_true'] at hf
    obtain ⟨⟨⟨hf1, hf2⟩, hf3⟩, hf4⟩ := hf
    simp only [List.length_cons] at hl
    refine wpAny_execs_cons ?_
    refine plainObj_wpAny_Assign_Attribute ?_ hs
    refine hv s _ _ F fun t1 tk1 => ?_
    refine nameX_L (s := { s with toks := tk1 }) F hself ?_ hk hx hd
    have hg : getL attr es = some none := by
      unfold getL
      have : es.find? (fun e => e.key.isStr attr) = none := by
        rw [List.find?_eq_none]
        intro x hx1 hx2
        have := List.any_eq_false.mp hf1 x hx1
        exact this hx2
      rw [this, hf2]
      rfl
    refine set_dict (s := { s with toks := tk1 }) (es' := es ++ [⟨PyData.keyHash w.params attr, .str attr (tk1 + 1), f t1⟩]) (n' := n + 1) F X₀ N (InstAt.of_news N (.head _) (.tail _ (.head _))) rfl hsk hp ht hh (by rw [hg]; rfl) ?_ (Upd.tail hod (Upd.head hnd)) (by rw [List.length_append, List.length_singleton]; omega) ?_
    · rw [putL_new hf1]
      unfold putN
      rw [if_neg (by rw [hf1]; exact Bool.false_ne_true)]
    · intro h' F' N'
      refine ih (s := { s with heap := h', toks := tk1 + 2 }) F' N' (freshE_cons rfl hf4 (by simpa using hf3)) (by rw [List.length_append, List.length_singleton]; omega) ?_
      intro B U h2 tk2 F2 N2
      have h3 : es ++ [(⟨PyData.keyHash w.params attr, .str attr (tk1 + 1), f t1⟩ : DictEntry)] ++ mkE w B U 0 l = es ++ mkE w (fun i => match i with | 0 => tk1 + 1 | j + 1 => B j) (fun i => match i with | 0 => t1 | j + 1 => U j) 0 ((attr, f) :: l) := by
        rw [List.append_assoc]
        congr 1
        show _ :: mkE w B U 0 l = _ :: mkE w _ _ 1 l
        congr 1
        exact (mkE_shift (fun i => by rw [Nat.add_comm 1 i, Nat.zero_add]) (fun i => by rw [Nat.add_comm 1 i, Nat.zero_add])).symm
      have h4 : n + 1 + l.length = n + ((attr, f) :: l).length := by rw [List.length_cons]; omega
      rw [h3, h4] at N2
      exact k _ _ h2 tk2 F2 N2
theorem blk_go {self : Str} {stmts t : List Stmt} {l : List (Str × (Tok → Value))} {Q : Flow → Shared → Prop} (X₀ : K.In h₀) (hself : m self = some (.ref o)) (hsk : findIn K (.ref C) "__setattr__" = some (some (.builtin "object.__setattr__"))) (hp : plainOver K C = true) (hh : hasDictIn K C = true)
    (hk : cs.kind = .function) (hx : (envX cn cs L a ccd cl).kindOf self = some .local) (hd : (self == ("__debug__" : Str)) = false) {news : List (Addr × Obj)} (hod : @Ne Nat o d) (hnd : ∀ p ∈ news, p.1 ≠ d)
    (b : Blk K C self (EvF prog w A (envX cn cs L a ccd cl) L h₀ m) (envX cn cs L a ccd cl) stmts l t) {es : List DictEntry} {n n' : Nat} {s : Shared} (F : Fr h₀ L s.heap m) (N : News h₀ L s.heap ((o, instObj C d) :: (d, dictOf es n) :: news)) (hf : freshE es (l.map (·.1)) = true) (hl : es.length + l.length ≤ 1000) (hn : n + l.length = n')
    (k : ∀ B U h' tk', Fr h₀ L h' m → News h₀ L h' ((o, instObj C d) :: (d, dictOf (es ++ mkE w B U 0 l) n') :: news) → wpAny (model prog w) A (execs t (envX cn cs L a ccd cl)) Q E { s with heap := h', toks := tk' }) :
    wpAny (model prog w) A (execs stmts (envX cn cs L a ccd cl)) Q E s := blk_run X₀ hself hsk hp hh hk hx hd hod hnd b F N hf hl (hn ▸ k)
end
end
/-! cls -/
section
variable {w : World} {mean : ExcName → Option Value} {mg mb : Str → Option Value} {dp un : Nat} {gd : Option (List Code)} {cn : Str} {cs : Scope} {a : Addr} {ccd : Value} {cl : List (Str × Addr)} {outer : List Env} {A₀ : Around} {base h₀ : Heap}
  {L : Addr} {m : Str → Option Value} {rest : List (Addr × Obj)} {s : Shared} {Q E : Value → Shared → Prop}
theorem cls_go {C fI : Addr} {args : List Value} {name qual : Str} {params : Arguments} {body : List Stmt} {scope : Scope} {dV kV doc pm cdv ct oc : Value} {an od : Option Addr} {osl : Array (Option Value)} {binds : Addr → List (Str × Value)}
    (X9 : Cx w mean mg mb cs outer A₀ base h₀ L m s.heap) (N : News h₀ L s.heap rest) (hm : makesIn (KF w.params) C = true) (hi : findIn (KF w.params) (.ref C) "__init__" = some (some (.ref fI))) (hf : isFn (KF w.params) (.ref fI) = true)
    (ho : (KF w.params).lookup fI = some ⟨oc, od, .func (fnOf name qual params body scope dV kV doc pm an cdv ct), osl⟩) (hcd : codeIn (KF w.params) cdv qual = true) (hroom : dp + 1 < recursionLimit)
    (hbind : ∀ (x : Addr) (h : Heap), (KF w.params).In h → BindsTo { s with heap := h } (fnOf name qual params body scope dV kV doc pm an cdv ct) ⟨.ref x :: args, []⟩ (binds x)) (hloc : ∀ (x : Addr), ∀ y ∈ binds x, scope.names.lookup y.1 = some .local)
    (hco : scope.isCoroutine = false) (hgen : scope.isGenerator = false) (hk : scope.kind = .function) (hcell : ∀ x ∈ scope.names, x.2 ≠ .cell)
    (h : ∀ (x d : Addr) (g : Heap) (L' : Addr) (h₁ : Heap) (tk : Nat) (Q9 : Flow → Shared → Prop) (E9 : Value → Shared → Prop), AllLt d rest → @LT.lt Nat _ d x → Fr g L' h₁ (fun y => (binds x).reverse.lookup y) → News g L' h₁ ((x, instObj C d) :: (d, dictOf [] 0) :: rest) →
      Below (ktrTop (dp + 1) (un + 1) (pushGuards (Code.builtin "type.__call__" { pos := Value.ref C :: args }).guards gd) cn cs L a ccd cl outer) base (envX cn cs L a ccd cl :: outer) g → (KF w.params).In g → Top q1 (looseW q1 loose1) mean mg mb g →
      (∀ (h2 : Heap) (tk2 : Nat) (m2 : Str → Option Value) (news2 : List (Addr × Obj)), Fr g L' h2 m2 → News g L' h2 news2 → (Fr h₀ L h2 m → News h₀ L h2 news2 → Q (.ref x) { s with heap := h2, toks := tk2 }) → Q9 .next { s with heap := h2, toks := tk2 }) →
      wpAny (model PySem.Challenge.rw_xw0342_01.row.prog w) ((ktrTop (dp + 1) (un + 1) (pushGuards (Code.builtin "type.__call__" { pos := Value.ref C :: args }).guards gd) cn cs L a ccd cl outer).deeper (envOf qual scope L' fI cdv)) (execs body (envOf qual scope L' fI cdv)) Q9 E9 { s with heap := h₁, toks := tk }) :
    wpAny (model PySem.Challenge.rw_xw0342_01.row.prog w) (ktrTop dp un gd cn cs L a ccd cl outer) (call (.ref C) args) Q E s := by
  obtain ⟨B, F, X, T, hcs⟩ := X9
  refine call_cls F X N hm hi hf ?_
  intro x d h' F' N' l1 l2
  rw [under_ktr]
  refine code_def (s := { s with heap := h' }) (binds := binds x) B F' X N' T rfl rfl ?_ ho hcd ?_ (hbind x h' (X.keeps F'.keep)) (hloc _) ?_ hco hgen hk hcell
  · exact hcs
  · exact hroom
  · intro g L' h₁ FG F1 N1 B1 X1 T1
    refine h x d g L' h₁ _ _ _ (allLt_of l1) l2 F1 N1 B1 X1 T1 ?_
    intro h2 tk2 m2 news2 F2 N2 k
    refine leaveK_ F2 N2 fun kF kN => ?_
    exact ⟨rfl, k kF kN⟩
end
/-! objs -/
section
variable {w : World} {mean : ExcName → Option Value} {mg mb : Str → Option Value} {dp un : Nat} {gd : Option (List Code)} {cn : Str} {cs : Scope} {a : Addr} {ccd : Value} {cl : List (Str × Addr)} {outer : List Env} {A₀ : Around} {base h₀ : Heap}
  {L : Addr} {m : Str → Option Value} {rest : List (Addr × Obj)} {s : Shared} {Q E : Value → Shared → Prop}
/-- an entry of an object's own table -/
noncomputable abbrev fe (w : World) (n : String) (t : Tok) (v : Value) : DictEntry := ⟨PyData.keyHash w.params (Str.ofString n), .str (Str.ofString n) t, v⟩
noncomputable abbrev estD (w : World) (k : Nat → Tok) (v0 v1 v2 v3 v4 v5 : Value) : Obj :=
  dictOf [fe w "first" (k 0) v0, fe w "least" (k 1) v1, fe w "most" (k 2) v2, fe w "mean8" (k 3) v3, fe w "spread4" (k 4) v4, fe w "measured" (k 5) v5] 6
noncomputable abbrev sndD (w : World) (k : Nat → Tok) (v0 v1 v2 v3 v4 v5 v6 v7 v8 v9 v10 : Value) : Obj :=
  dictOf [fe w "iss" (k 0) v0, fe w "ring" (k 1) v1, fe w "mss" (k 2) v2, fe w "una" (k 3) v3, fe w "next" (k 4) v4, fe w "greatest" (k 5) v5, fe w "peer" (k 6) v6, fe w "queue" (k 7) v7, fe w "syn_pending" (k 8) v8, fe w "fin_asked" (k 9) v9, fe w "fin_sent" (k 10) v10] 11
noncomputable abbrev clkD (w : World) (k : Nat → Tok) (v0 v1 v2 v3 v4 : Value) : Obj :=
  dictOf [fe w "estimate" (k 0) v0, fe w "most_tries" (k 1) v1, fe w "tries" (k 2) v2, fe w "timed_end" (k 3) v3, fe w "timed_at" (k 4) v4] 5
noncomputable abbrev whlD (w : World) (k : Nat → Tok) (v0 v1 v2 v3 v4 v5 : Value) : Obj :=
  dictOf [fe w "size" (k 0) v0, fe w "slots" (k 1) v1, fe w "late" (k 2) v2, fe w "entries" (k 3) v3, fe w "reached" (k 4) v4, fe w "given" (k 5) v5] 6
noncomputable abbrev queD (w : World) (k : Nat → Tok) (v0 v1 : Value) : Obj :=
  dictOf [fe w "room" (k 0) v0, fe w "held" (k 1) v1] 2
noncomputable abbrev limD (w : World) (k : Nat → Tok) (v0 v1 v2 v3 v4 v5 v6 v7 v8 v9 : Value) : Obj :=
  dictOf [fe w "ring" (k 0) v0, fe w "mss" (k 1) v1, fe w "send_room" (k 2) v2, fe w "receive_room" (k 3) v3, fe w "first_timeout" (k 4) v4, fe w "least_timeout" (k 5) v5, fe w "most_timeout" (k 6) v6, fe w "most_tries" (k 7) v7, fe w "ack_delay" (k 8) v8, fe w "time_wait" (k 9) v9] 10
noncomputable abbrev tcbD (w : World) (k : Nat → Tok) (v0 v1 v2 v3 v4 v5 v6 v7 v8 v9 v10 v11 v12 v13 : Value) : Obj :=
  dictOf [fe w "limits" (k 0) v0, fe w "local" (k 1) v1, fe w "remote" (k 2) v2, fe w "state" (k 3) v3, fe w "sender" (k 4) v4, fe w "receiver" (k 5) v5, fe w "clock" (k 6) v6, fe w "congestion" (k 7) v7, fe w "acks" (k 8) v8, fe w "wheel" (k 9) v9, fe w "error" (k 10) v10, fe w "probes" (k 11) v11, fe w "unanswered" (k 12) v12, fe w "is_nagle" (k 13) v13] 14
noncomputable abbrev tup2 (i : Int) (t : Tok) (j : Int) (u : Tok) : Obj := { cls := .type "tuple", data := .seq #[.int i t, .int j u] }
end
/-! climits -/
section
variable {w : World} {mean : ExcName → Option Value} {mg mb : Str → Option Value} {dp un : Nat} {gd : Option (List Code)} {cn : Str} {cs : Scope} {a : Addr} {ccd : Value} {cl : List (Str × Addr)} {outer : List Env} {A₀ : Around} {base h₀ : Heap}
  {L : Addr} {m : Str → Option Value} {rest : List (Addr × Obj)} {s : Shared} {Q E : Value → Shared → Prop}
set_option maxHeartbeats 0 in
theorem limits_ct {f l mo t : Int} {y0 y1 y2 y3 y4 y5 y6 y7 y8 y9 : Tok} (C : Cx w mean mg mb cs outer A₀ base h₀ L m s.heap)
    (N : News h₀ L s.heap rest) (hd : dp + 10 < recursionLimit) (hu : un + 200 < cLine)
    (ret : ∀ (ld lx : Addr) (lB : Nat → Tok) (h' : Heap) (tk' : Nat), AllLt ld rest → @LT.lt Nat _ ld lx → Fr h₀ L h' m → News h₀ L h' ((ld, limD w lB (.int 256 y0) (.int 4 y1) (.int 20 y2) (.int 16 y3) (.int f y4) (.int l y5) (.int mo y6) (.int t y7) (.int 2 y8) (.int 12 y9)) :: (lx, instObj 844 ld) :: rest) → Q (.ref lx) { s with heap := h', toks := tk' }) :
    wpAny (model PySem.Challenge.rw_xw0342_01.row.prog w) (ktrTop dp un gd cn cs L a ccd cl outer) (call (.ref 844) [.int 256 y0, .int 4 y1, .int 20 y2, .int 16 y3, .int f y4, .int l y5, .int mo y6, .int t y7, .int 2 y8, .int 12 y9]) Q E s := by
  refine' cls_go C N ?hm ?hi ?hf ?ho ?hcd ?hroom ?hbind ?hloc ?hco ?hgen ?hk ?hcell ?_
  (case hm => k_is)
  (case hi => k_is)
  (case hf => k_is)
  (case ho => k_is)
  (case hcd => k_is)
  (case hroom => ktr_room)
  (case hbind => exact fun _ _ _ => BindsTo.of_eq rfl)
  (case hloc => exact fun _ => locs rfl)
  (case hco => exact rfl)
  (case hgen => exact rfl)
  (case hk => exact rfl)
  (case hcell => decide)
  intro x9 d9 g9 L9 h9 tk9 Q9 E9 l91 l92 F1 N1 B1 X1 T1 hq9
  k_dflt (refine' blk_go (self := Str.ofString "self") (n' := 10) X1 ?self ?sk ?hp ?hh ?hk ?hx ?hd (Nat.ne_of_gt l92) (allLt_ne l91) ?b F1 N1 ?fr ?len ?hn9 ?_)
  (case self => exact rfl)
  (case sk => k_is)
  (case hp => k_is)
  (case hh => k_is)
  (case hk => exact rfl)
  (case hx => exact rfl)
  (case hd => decide)
  (case b => exact .cons (by with_unfolding_all rfl) (by k_is) (by first | exact ev_int | exact ev_none | exact ev_bool | exact ev_bytes | exact ev_loc (by rfl) (by rfl) (by rfl) (by decide)) (.cons (by with_unfolding_all rfl) (by k_is) (by first | exact ev_int | exact ev_none | exact ev_bool | exact ev_bytes | exact ev_loc (by rfl) (by rfl) (by rfl) (by decide)) (.cons (by with_unfolding_all rfl) (by k_is) (by first | exact ev_int | exact ev_none | exact ev_bool | exact ev_bytes | exact ev_loc (by rfl) (by rfl) (by rfl) (by decide)) (.cons (by with_unfolding_all rfl) (by k_is) (by first | exact ev_int | exact ev_none | exact ev_bool | exact ev_bytes | exact ev_loc (by rfl) (by rfl) (by rfl) (by decide)) (.cons (by with_unfolding_all rfl) (by k_is) (by first | exact ev_int | exact ev_none | exact ev_bool | exact ev_bytes | exact ev_loc (by rfl) (by rfl) (by rfl) (by decide)) (.cons (by with_unfolding_all rfl) (by k_is) (by first | exact ev_int | exact ev_none | exact ev_bool | exact ev_bytes | exact ev_loc (by rfl) (by rfl) (by rfl) (by decide)) (.cons (by with_unfolding_all rfl) (by k_is) (by first | exact ev_int | exact ev_none | exact ev_bool | exact ev_bytes | exact ev_loc (by rfl) (by rfl) (by rfl) (by decide)) (.cons (by with_unfolding_all rfl) (by k_is) (by first | exact ev_int | exact ev_none | exact ev_bool | exact ev_bytes | exact ev_loc (by rfl) (by rfl) (by rfl) (by decide)) (.cons (by with_unfolding_all rfl) (by k_is) (by first | exact ev_int | exact ev_none | exact ev_bool | exact ev_bytes | exact ev_loc (by rfl) (by rfl) (by rfl) (by decide)) (.cons (by with_unfolding_all rfl) (by k_is) (by first | exact ev_int | exact ev_none | exact ev_bool | exact ev_bytes | exact ev_loc (by rfl) (by rfl) (by rfl) (by decide)) (.nil)))))))))))
  (case fr => kernel_rfl)
  (case len => exact Nat.le_of_ble_eq_true rfl)
  (case hn9 => exact rfl)
  intro B9 U9 h9 tk9 F9 N9
  refine wpAny_execs_nil ?_
  refine hq9 _ _ _ _ F9 N9 fun kF kN => ?_
  exact ret _ _ B9 _ _ l91 l92 kF (news_w kN (.cons (.tail _ (.head _)) (.cons (.head _) (.skip (.skip .refl)))))
end
/-! cacks -/
section
variable {w : World} {mean : ExcName → Option Value} {mg mb : Str → Option Value} {dp un : Nat} {gd : Option (List Code)} {cn : Str} {cs : Scope} {a : Addr} {ccd : Value} {cl : List (Str × Addr)} {outer : List Env} {A₀ : Around} {base h₀ : Heap}
  {L : Addr} {m : Str → Option Value} {rest : List (Addr × Obj)} {s : Shared} {Q E : Value → Shared → Prop}
set_option maxHeartbeats 0 in
theorem acks_ct {y : Tok} (C : Cx w mean mg mb cs outer A₀ base h₀ L m s.heap)
    (N : News h₀ L s.heap rest) (hd : dp + 10 < recursionLimit) (hu : un + 200 < cLine)
    (ret : ∀ (v : Addr) (h' : Heap) (tk' : Nat), Fr h₀ L h' m → News h₀ L h' rest → Q (.ref v) { s with heap := h', toks := tk' }) :
    wpAny (model PySem.Challenge.rw_xw0342_01.row.prog w) (ktrTop dp un gd cn cs L a ccd cl outer) (call (.ref 153) [.int 2 y]) Q E s := by
  refine' cls_go C N ?hm ?hi ?hf ?ho ?hcd ?hroom ?hbind ?hloc ?hco ?hgen ?hk ?hcell ?_
  (case hm => k_is)
  (case hi => k_is)
  (case hf => k_is)
  (case ho => k_is)
  (case hcd => k_is)
  (case hroom => ktr_room)
  (case hbind => exact fun _ _ _ => BindsTo.of_eq rfl)
  (case hloc => exact fun _ => locs rfl)
  (case hco => exact rfl)
  (case hgen => exact rfl)
  (case hk => exact rfl)
  (case hcell => decide)
  intro x9 d9 g9 L9 h9 tk9 Q9 E9 l91 l92 F1 N1 B1 X1 T1 hq9
  k_dflt (refine' blk_go (self := Str.ofString "self") (n' := 4) X1 ?self ?sk ?hp ?hh ?hk ?hx ?hd (Nat.ne_of_gt l92) (allLt_ne l91) ?b F1 N1 ?fr ?len ?hn9 ?_)
  (case self => exact rfl)
  (case sk => k_is)
  (case hp => k_is)
  (case hh => k_is)
  (case hk => exact rfl)
  (case hx => exact rfl)
  (case hd => decide)
  (case b => exact .cons (by with_unfolding_all rfl) (by k_is) (by first | exact ev_int | exact ev_none | exact ev_bool | exact ev_bytes | exact ev_loc (by rfl) (by rfl) (by rfl) (by decide)) (.cons (by with_unfolding_all rfl) (by k_is) (by first | exact ev_int | exact ev_none | exact ev_bool | exact ev_bytes | exact ev_loc (by rfl) (by rfl) (by rfl) (by decide)) (.cons (by with_unfolding_all rfl) (by k_is) (by first | exact ev_int | exact ev_none | exact ev_bool | exact ev_bytes | exact ev_loc (by rfl) (by rfl) (by rfl) (by decide)) (.cons (by with_unfolding_all rfl) (by k_is) (by first | exact ev_int | exact ev_none | exact ev_bool | exact ev_bytes | exact ev_loc (by rfl) (by rfl) (by rfl) (by decide)) (.nil)))))
  (case fr => kernel_rfl)
  (case len => exact Nat.le_of_ble_eq_true rfl)
  (case hn9 => exact rfl)
  intro B9 U9 h9 tk9 F9 N9
  refine wpAny_execs_nil ?_
  refine hq9 _ _ _ _ F9 N9 fun kF kN => ?_
  exact ret _ _ _ kF (news_w kN (.skip (.skip .refl)))
end
/-! cpeer -/
section
variable {w : World} {mean : ExcName → Option Value} {mg mb : Str → Option Value} {dp un : Nat} {gd : Option (List Code)} {cn : Str} {cs : Scope} {a : Addr} {ccd : Value} {cl : List (Str × Addr)} {outer : List Env} {A₀ : Around} {base h₀ : Heap}
  {L : Addr} {m : Str → Option Value} {rest : List (Addr × Obj)} {s : Shared} {Q E : Value → Shared → Prop}
set_option maxHeartbeats 0 in
theorem peer_ct {y : Tok} (C : Cx w mean mg mb cs outer A₀ base h₀ L m s.heap)
    (N : News h₀ L s.heap rest) (hd : dp + 10 < recursionLimit) (hu : un + 200 < cLine)
    (ret : ∀ (v : Addr) (h' : Heap) (tk' : Nat), Fr h₀ L h' m → News h₀ L h' rest → Q (.ref v) { s with heap := h', toks := tk' }) :
    wpAny (model PySem.Challenge.rw_xw0342_01.row.prog w) (ktrTop dp un gd cn cs L a ccd cl outer) (call (.ref 475) [.int 256 y]) Q E s := by
  refine' cls_go C N ?hm ?hi ?hf ?ho ?hcd ?hroom ?hbind ?hloc ?hco ?hgen ?hk ?hcell ?_
  (case hm => k_is)
  (case hi => k_is)
  (case hf => k_is)
  (case ho => k_is)
  (case hcd => k_is)
  (case hroom => ktr_room)
  (case hbind => exact fun _ _ _ => BindsTo.of_eq rfl)
  (case hloc => exact fun _ => locs rfl)
  (case hco => exact rfl)
  (case hgen => exact rfl)
  (case hk => exact rfl)
  (case hcell => decide)
  intro x9 d9 g9 L9 h9 tk9 Q9 E9 l91 l92 F1 N1 B1 X1 T1 hq9
  k_dflt (refine' blk_go (self := Str.ofString "self") (n' := 5) X1 ?self ?sk ?hp ?hh ?hk ?hx ?hd (Nat.ne_of_gt l92) (allLt_ne l91) ?b F1 N1 ?fr ?len ?hn9 ?_)
  (case self => exact rfl)
  (case sk => k_is)
  (case hp => k_is)
  (case hh => k_is)
  (case hk => exact rfl)
  (case hx => exact rfl)
  (case hd => decide)
  (case b => exact .cons (by with_unfolding_all rfl) (by k_is) (by first | exact ev_int | exact ev_none | exact ev_bool | exact ev_bytes | exact ev_loc (by rfl) (by rfl) (by rfl) (by decide)) (.cons (by with_unfolding_all rfl) (by k_is) (by first | exact ev_int | exact ev_none | exact ev_bool | exact ev_bytes | exact ev_loc (by rfl) (by rfl) (by rfl) (by decide)) (.cons (by with_unfolding_all rfl) (by k_is) (by first | exact ev_int | exact ev_none | exact ev_bool | exact ev_bytes | exact ev_loc (by rfl) (by rfl) (by rfl) (by decide)) (.cons (by with_unfolding_all rfl) (by k_is) (by first | exact ev_int | exact ev_none | exact ev_bool | exact ev_bytes | exact ev_loc (by rfl) (by rfl) (by rfl) (by decide)) (.cons (by with_unfolding_all rfl) (by k_is) (by first | exact ev_int | exact ev_none | exact ev_bool | exact ev_bytes | exact ev_loc (by rfl) (by rfl) (by rfl) (by decide)) (.nil))))))
  (case fr => kernel_rfl)
  (case len => exact Nat.le_of_ble_eq_true rfl)
  (case hn9 => exact rfl)
  intro B9 U9 h9 tk9 F9 N9
  refine wpAny_execs_nil ?_
  refine hq9 _ _ _ _ F9 N9 fun kF kN => ?_
  exact ret _ _ _ kF (news_w kN (.skip (.skip .refl)))
end
/-! ccong -/
section
variable {w : World} {mean : ExcName → Option Value} {mg mb : Str → Option Value} {dp un : Nat} {gd : Option (List Code)} {cn : Str} {cs : Scope} {a : Addr} {ccd : Value} {cl : List (Str × Addr)} {outer : List Env} {A₀ : Around} {base h₀ : Heap}
  {L : Addr} {m : Str → Option Value} {rest : List (Addr × Obj)} {s : Shared} {Q E : Value → Shared → Prop}
set_option maxHeartbeats 0 in
theorem cong_ct {y1 y2 y3 : Tok} {i1 i2 i3 : Int} (C : Cx w mean mg mb cs outer A₀ base h₀ L m s.heap)
    (N : News h₀ L s.heap rest) (hd : dp + 10 < recursionLimit) (hu : un + 200 < cLine)
    (ret : ∀ (v : Addr) (h' : Heap) (tk' : Nat), Fr h₀ L h' m → News h₀ L h' rest → Q (.ref v) { s with heap := h', toks := tk' }) :
    wpAny (model PySem.Challenge.rw_xw0342_01.row.prog w) (ktrTop dp un gd cn cs L a ccd cl outer) (call (.ref 244) [.int i1 y1, .int i2 y2, .int i3 y3]) Q E s := by
  refine' cls_go C N ?hm ?hi ?hf ?ho ?hcd ?hroom ?hbind ?hloc ?hco ?hgen ?hk ?hcell ?_
  (case hm => k_is)
  (case hi => k_is)
  (case hf => k_is)
  (case ho => k_is)
  (case hcd => k_is)
  (case hroom => ktr_room)
  (case hbind => exact fun _ _ _ => BindsTo.of_eq rfl)
  (case hloc => exact fun _ => locs rfl)
  (case hco => exact rfl)
  (case hgen => exact rfl)
  (case hk => exact rfl)
  (case hcell => decide)
  intro x9 d9 g9 L9 h9 tk9 Q9 E9 l91 l92 F1 N1 B1 X1 T1 hq9
  k_dflt (refine' blk_go (self := Str.ofString "self") (n' := 8) X1 ?self ?sk ?hp ?hh ?hk ?hx ?hd (Nat.ne_of_gt l92) (allLt_ne l91) ?b F1 N1 ?fr ?len ?hn9 ?_)
  (case self => exact rfl)
  (case sk => k_is)
  (case hp => k_is)
  (case hh => k_is)
  (case hk => exact rfl)
  (case hx => exact rfl)
  (case hd => decide)
  (case b => exact .cons (by with_unfolding_all rfl) (by k_is) (by first | exact ev_int | exact ev_none | exact ev_bool | exact ev_bytes | exact ev_loc (by rfl) (by rfl) (by rfl) (by decide)) (.cons (by with_unfolding_all rfl) (by k_is) (by first | exact ev_int | exact ev_none | exact ev_bool | exact ev_bytes | exact ev_loc (by rfl) (by rfl) (by rfl) (by decide)) (.cons (by with_unfolding_all rfl) (by k_is) (by first | exact ev_int | exact ev_none | exact ev_bool | exact ev_bytes | exact ev_loc (by rfl) (by rfl) (by rfl) (by decide)) (.cons (by with_unfolding_all rfl) (by k_is) (by first | exact ev_int | exact ev_none | exact ev_bool | exact ev_bytes | exact ev_loc (by rfl) (by rfl) (by rfl) (by decide)) (.cons (by with_unfolding_all rfl) (by k_is) (by first | exact ev_int | exact ev_none | exact ev_bool | exact ev_bytes | exact ev_loc (by rfl) (by rfl) (by rfl) (by decide)) (.cons (by with_unfolding_all rfl) (by k_is) (by first | exact ev_int | exact ev_none | exact ev_bool | exact ev_bytes | exact ev_loc (by rfl) (by rfl) (by rfl) (by decide)) (.cons (by with_unfolding_all rfl) (by k_is) (by first | exact ev_int | exact ev_none | exact ev_bool | exact ev_bytes | exact ev_loc (by rfl) (by rfl) (by rfl) (by decide)) (.cons (by with_unfolding_all rfl) (by k_is) (by first | exact ev_int | exact ev_none | exact ev_bool | exact ev_bytes | exact ev_loc (by rfl) (by rfl) (by rfl) (by decide)) (.nil)))))))))
  (case fr => kernel_rfl)
  (case len => exact Nat.le_of_ble_eq_true rfl)
  (case hn9 => exact rfl)
  intro B9 U9 h9 tk9 F9 N9
  refine wpAny_execs_nil ?_
  refine hq9 _ _ _ _ F9 N9 fun kF kN => ?_
  exact ret _ _ _ kF (news_w kN (.skip (.skip .refl)))
end
/-! cseg -/
section
variable {w : World} {mean : ExcName → Option Value} {mg mb : Str → Option Value} {dp un : Nat} {gd : Option (List Code)} {cn : Str} {cs : Scope} {a : Addr} {ccd : Value} {cl : List (Str × Addr)} {outer : List Env} {A₀ : Around} {base h₀ : Heap}
  {L : Addr} {m : Str → Option Value} {rest : List (Addr × Obj)} {s : Shared} {Q E : Value → Shared → Prop}
set_option maxHeartbeats 0 in
theorem seg_ct {x0 x1 x2 x3 x4 x5 x6 x7 x8 : Value} (C : Cx w mean mg mb cs outer A₀ base h₀ L m s.heap)
    (N : News h₀ L s.heap rest) (hd : dp + 10 < recursionLimit) (hu : un + 200 < cLine)
    (ret : ∀ (v : Addr) (h' : Heap) (tk' : Nat), Fr h₀ L h' m → News h₀ L h' rest → Q (.ref v) { s with heap := h', toks := tk' }) :
    wpAny (model PySem.Challenge.rw_xw0342_01.row.prog w) (ktrTop dp un gd cn cs L a ccd cl outer) (call (.ref 716) [x0, x1, x2, x3, x4, x5, x6, x7, x8]) Q E s := by
  refine' cls_go C N ?hm ?hi ?hf ?ho ?hcd ?hroom ?hbind ?hloc ?hco ?hgen ?hk ?hcell ?_
  (case hm => k_is)
  (case hi => k_is)
  (case hf => k_is)
  (case ho => k_is)
  (case hcd => k_is)
  (case hroom => ktr_room)
  (case hbind => exact fun _ _ X8 => binds_K X8 rfl (by k_is) rfl rfl rfl)
  (case hloc => exact fun _ => locs rfl)
  (case hco => exact rfl)
  (case hgen => exact rfl)
  (case hk => exact rfl)
  (case hcell => decide)
  intro x9 d9 g9 L9 h9 tk9 Q9 E9 l91 l92 F1 N1 B1 X1 T1 hq9
  k_dflt (refine' blk_go (self := Str.ofString "self") (n' := 9) X1 ?self ?sk ?hp ?hh ?hk ?hx ?hd (Nat.ne_of_gt l92) (allLt_ne l91) ?b F1 N1 ?fr ?len ?hn9 ?_)
  (case self => exact rfl)
  (case sk => k_is)
  (case hp => k_is)
  (case hh => k_is)
  (case hk => exact rfl)
  (case hx => exact rfl)
  (case hd => decide)
  (case b => exact .cons (by with_unfolding_all rfl) (by k_is) (by first | exact ev_int | exact ev_none | exact ev_bool | exact ev_bytes | exact ev_loc (by rfl) (by rfl) (by rfl) (by decide)) (.cons (by with_unfolding_all rfl) (by k_is) (by first | exact ev_int | exact ev_none | exact ev_bool | exact ev_bytes | exact ev_loc (by rfl) (by rfl) (by rfl) (by decide)) (.cons (by with_unfolding_all rfl) (by k_is) (by first | exact ev_int | exact ev_none | exact ev_bool | exact ev_bytes | exact ev_loc (by rfl) (by rfl) (by rfl) (by decide)) (.cons (by with_unfolding_all rfl) (by k_is) (by first | exact ev_int | exact ev_none | exact ev_bool | exact ev_bytes | exact ev_loc (by rfl) (by rfl) (by rfl) (by decide)) (.cons (by with_unfolding_all rfl) (by k_is) (by first | exact ev_int | exact ev_none | exact ev_bool | exact ev_bytes | exact ev_loc (by rfl) (by rfl) (by rfl) (by decide)) (.cons (by with_unfolding_all rfl) (by k_is) (by first | exact ev_int | exact ev_none | exact ev_bool | exact ev_bytes | exact ev_loc (by rfl) (by rfl) (by rfl) (by decide)) (.cons (by with_unfolding_all rfl) (by k_is) (by first | exact ev_int | exact ev_none | exact ev_bool | exact ev_bytes | exact ev_loc (by rfl) (by rfl) (by rfl) (by decide)) (.cons (by with_unfolding_all rfl) (by k_is) (by first | exact ev_int | exact ev_none | exact ev_bool | exact ev_bytes | exact ev_loc (by rfl) (by rfl) (by rfl) (by decide)) (.cons (by with_unfolding_all rfl) (by k_is) (by first | exact ev_int | exact ev_none | exact ev_bool | exact ev_bytes | exact ev_loc (by rfl) (by rfl) (by rfl) (by decide)) (.nil))))))))))
  (case fr => kernel_rfl)
  (case len => exact Nat.le_of_ble_eq_true rfl)
  (case hn9 => exact rfl)
  intro B9 U9 h9 tk9 F9 N9
  refine wpAny_execs_nil ?_
  refine hq9 _ _ _ _ F9 N9 fun kF kN => ?_
  exact ret _ _ _ kF (news_w kN (.skip (.skip .refl)))
end
/-! cest -/
section
variable {w : World} {mean : ExcName → Option Value} {mg mb : Str → Option Value} {dp un : Nat} {gd : Option (List Code)} {cn : Str} {cs : Scope} {a : Addr} {ccd : Value} {cl : List (Str × Addr)} {outer : List Env} {A₀ : Around} {base h₀ : Heap}
  {L : Addr} {m : Str → Option Value} {rest : List (Addr × Obj)} {s : Shared} {Q E : Value → Shared → Prop}
set_option maxHeartbeats 0 in
theorem estc_ct {f lo mo : Int} {t0 t1 t2 : Tok} (C : Cx w mean mg mb cs outer A₀ base h₀ L m s.heap)
    (N : News h₀ L s.heap rest) (hd : dp + 10 < recursionLimit) (hu : un + 200 < cLine)
    (ret : ∀ (xd ex : Addr) (kB : Nat → Tok) (t3 t4 t5 : Tok) (h' : Heap) (tk' : Nat), AllLt xd rest → @LT.lt Nat _ xd ex → Fr h₀ L h' m → News h₀ L h' ((xd, estD w kB (.int f t0) (.int lo t1) (.int mo t2) (.int 0 t3) (.int 0 t4) (.int 0 t5)) :: (ex, instObj 377 xd) :: rest) → Q (.ref ex) { s with heap := h', toks := tk' }) :
    wpAny (model PySem.Challenge.rw_xw0342_01.row.prog w) (ktrTop dp un gd cn cs L a ccd cl outer) (call (.ref 377) [.int f t0, .int lo t1, .int mo t2]) Q E s := by
  refine' cls_go C N ?hm ?hi ?hf ?ho ?hcd ?hroom ?hbind ?hloc ?hco ?hgen ?hk ?hcell ?_
  (case hm => k_is)
  (case hi => k_is)
  (case hf => k_is)
  (case ho => k_is)
  (case hcd => k_is)
  (case hroom => ktr_room)
  (case hbind => exact fun _ _ _ => BindsTo.of_eq rfl)
  (case hloc => exact fun _ => locs rfl)
  (case hco => exact rfl)
  (case hgen => exact rfl)
  (case hk => exact rfl)
  (case hcell => decide)
  intro x9 d9 g9 L9 h9 tk9 Q9 E9 l91 l92 F1 N1 B1 X1 T1 hq9
  k_dflt (refine' blk_go (self := Str.ofString "self") (n' := 6) X1 ?self ?sk ?hp ?hh ?hk ?hx ?hd (Nat.ne_of_gt l92) (allLt_ne l91) ?b F1 N1 ?fr ?len ?hn9 ?_)
  (case self => exact rfl)
  (case sk => k_is)
  (case hp => k_is)
  (case hh => k_is)
  (case hk => exact rfl)
  (case hx => exact rfl)
  (case hd => decide)
  (case b => exact .cons (by with_unfolding_all rfl) (by k_is) (by first | exact ev_int | exact ev_none | exact ev_bool | exact ev_bytes | exact ev_loc (by rfl) (by rfl) (by rfl) (by decide)) (.cons (by with_unfolding_all rfl) (by k_is) (by first | exact ev_int | exact ev_none | exact ev_bool | exact ev_bytes | exact ev_loc (by rfl) (by rfl) (by rfl) (by decide)) (.cons (by with_unfolding_all rfl) (by k_is) (by first | exact ev_int | exact ev_none | exact ev_bool | exact ev_bytes | exact ev_loc (by rfl) (by rfl) (by rfl) (by decide)) (.cons (by with_unfolding_all rfl) (by k_is) (by first | exact ev_int | exact ev_none | exact ev_bool | exact ev_bytes | exact ev_loc (by rfl) (by rfl) (by rfl) (by decide)) (.cons (by with_unfolding_all rfl) (by k_is) (by first | exact ev_int | exact ev_none | exact ev_bool | exact ev_bytes | exact ev_loc (by rfl) (by rfl) (by rfl) (by decide)) (.cons (by with_unfolding_all rfl) (by k_is) (by first | exact ev_int | exact ev_none | exact ev_bool | exact ev_bytes | exact ev_loc (by rfl) (by rfl) (by rfl) (by decide)) (.nil)))))))
  (case fr => kernel_rfl)
  (case len => exact Nat.le_of_ble_eq_true rfl)
  (case hn9 => exact rfl)
  intro B9 U9 h9 tk9 F9 N9
  refine wpAny_execs_nil ?_
  refine hq9 _ _ _ _ F9 N9 fun kF kN => ?_
  exact ret _ _ B9 _ _ _ _ _ l91 l92 kF (news_w kN (.cons (.tail _ (.head _)) (.cons (.head _) (.skip (.skip .refl)))))
end
/-! crclk -/
section
variable {w : World} {mean : ExcName → Option Value} {mg mb : Str → Option Value} {dp un : Nat} {gd : Option (List Code)} {cn : Str} {cs : Scope} {a : Addr} {ccd : Value} {cl : List (Str × Addr)} {outer : List Env} {A₀ : Around} {base h₀ : Heap}
  {L : Addr} {m : Str → Option Value} {rest : List (Addr × Obj)} {s : Shared} {Q E : Value → Shared → Prop}
set_option maxHeartbeats 0 in
theorem rclk_ct {ex : Addr} {tr : Int} {y7 : Tok} (C : Cx w mean mg mb cs outer A₀ base h₀ L m s.heap)
    (N : News h₀ L s.heap rest) (hd : dp + 10 < recursionLimit) (hu : un + 200 < cLine)
    (ret : ∀ (cd cx : Addr) (jB : Nat → Tok) (u2 u3 : Tok) (h' : Heap) (tk' : Nat), AllLt cd rest → @LT.lt Nat _ cd cx → Fr h₀ L h' m → News h₀ L h' ((cd, clkD w jB (.ref ex) (.int tr y7) (.int 0 u2) .none (.int 0 u3)) :: (cx, instObj 321 cd) :: rest) → Q (.ref cx) { s with heap := h', toks := tk' }) :
    wpAny (model PySem.Challenge.rw_xw0342_01.row.prog w) (ktrTop dp un gd cn cs L a ccd cl outer) (call (.ref 321) [.ref ex, .int tr y7]) Q E s := by
  refine' cls_go C N ?hm ?hi ?hf ?ho ?hcd ?hroom ?hbind ?hloc ?hco ?hgen ?hk ?hcell ?_
  (case hm => k_is)
  (case hi => k_is)
  (case hf => k_is)
  (case ho => k_is)
  (case hcd => k_is)
  (case hroom => ktr_room)
  (case hbind => exact fun _ _ _ => BindsTo.of_eq rfl)
  (case hloc => exact fun _ => locs rfl)
  (case hco => exact rfl)
  (case hgen => exact rfl)
  (case hk => exact rfl)
  (case hcell => decide)
  intro x9 d9 g9 L9 h9 tk9 Q9 E9 l91 l92 F1 N1 B1 X1 T1 hq9
  k_dflt (refine' blk_go (self := Str.ofString "self") (n' := 5) X1 ?self ?sk ?hp ?hh ?hk ?hx ?hd (Nat.ne_of_gt l92) (allLt_ne l91) ?b F1 N1 ?fr ?len ?hn9 ?_)
  (case self => exact rfl)
  (case sk => k_is)
  (case hp => k_is)
  (case hh => k_is)
  (case hk => exact rfl)
  (case hx => exact rfl)
  (case hd => decide)
  (case b => exact .cons (by with_unfolding_all rfl) (by k_is) (by first | exact ev_int | exact ev_none | exact ev_bool | exact ev_bytes | exact ev_loc (by rfl) (by rfl) (by rfl) (by decide)) (.cons (by with_unfolding_all rfl) (by k_is) (by first | exact ev_int | exact ev_none | exact ev_bool | exact ev_bytes | exact ev_loc (by rfl) (by rfl) (by rfl) (by decide)) (.cons (by with_unfolding_all rfl) (by k_is) (by first | exact ev_int | exact ev_none | exact ev_bool | exact ev_bytes | exact ev_loc (by rfl) (by rfl) (by rfl) (by decide)) (.cons (by with_unfolding_all rfl) (by k_is) (by first | exact ev_int | exact ev_none | exact ev_bool | exact ev_bytes | exact ev_loc (by rfl) (by rfl) (by rfl) (by decide)) (.cons (by with_unfolding_all rfl) (by k_is) (by first | exact ev_int | exact ev_none | exact ev_bool | exact ev_bytes | exact ev_loc (by rfl) (by rfl) (by rfl) (by decide)) (.nil))))))
  (case fr => kernel_rfl)
  (case len => exact Nat.le_of_ble_eq_true rfl)
  (case hn9 => exact rfl)
  intro B9 U9 h9 tk9 F9 N9
  refine wpAny_execs_nil ?_
  refine hq9 _ _ _ _ F9 N9 fun kF kN => ?_
  exact ret _ _ B9 _ _ _ _ l91 l92 kF (news_w kN (.cons (.tail _ (.head _)) (.cons (.head _) (.skip (.skip .refl)))))
end
/-! cqueue -/
section
variable {w : World} {mean : ExcName → Option Value} {mg mb : Str → Option Value} {dp un : Nat} {gd : Option (List Code)} {cn : Str} {cs : Scope} {a : Addr} {ccd : Value} {cl : List (Str × Addr)} {outer : List Env} {A₀ : Around} {base h₀ : Heap}
  {L : Addr} {m : Str → Option Value} {rest : List (Addr × Obj)} {s : Shared} {Q E : Value → Shared → Prop}
/-- two tokens as a function -/
def tk2 (a b : Tok) : Nat → Tok
  | 0 => a
  | _ + 1 => b
set_option maxHeartbeats 0 in
theorem queue_ct {y : Tok} (C : Cx w mean mg mb cs outer A₀ base h₀ L m s.heap)
    (N : News h₀ L s.heap rest) (hd : dp + 10 < recursionLimit) (hu : un + 200 < cLine)
    (ret : ∀ (qd qx : Addr) (hB : Nat → Tok) (h2 : Tok) (h' : Heap) (tk' : Nat), AllLt qd rest → @LT.lt Nat _ qd qx → Fr h₀ L h' m → News h₀ L h' ((qd, queD w hB (.int 20 y) (.bytes #[] h2)) :: (qx, instObj 433 qd) :: rest) → Q (.ref qx) { s with heap := h', toks := tk' }) :
    wpAny (model PySem.Challenge.rw_xw0342_01.row.prog w) (ktrTop dp un gd cn cs L a ccd cl outer) (call (.ref 433) [.int 20 y]) Q E s := by
  refine' cls_go C N ?hm ?hi ?hf ?ho ?hcd ?hroom ?hbind ?hloc ?hco ?hgen ?hk ?hcell ?_
  (case hm => k_is)
  (case hi => k_is)
  (case hf => k_is)
  (case ho => k_is)
  (case hcd => k_is)
  (case hroom => ktr_room)
  (case hbind => exact fun _ _ _ => BindsTo.of_eq rfl)
  (case hloc => exact fun _ => locs rfl)
  (case hco => exact rfl)
  (case hgen => exact rfl)
  (case hk => exact rfl)
  (case hcell => decide)
  intro x9 d9 g9 L9 h9 tk9 Q9 E9 l91 l92 F1 N1 B1 X1 T1 hq9
  k_steps
  refine hq9 _ _ _ _ (by k_asm) (by k_asm) fun kF kN => ?_
  exact ret _ _ (tk2 _ _) _ _ _ l91 l92 kF (news_w kN (.cons (.tail _ (.head _)) (.cons (.head _) (.skip (.skip .refl)))))
end
/-! cclock -/
section
variable {w : World} {mean : ExcName → Option Value} {mg mb : Str → Option Value} {dp un : Nat} {gd : Option (List Code)} {cn : Str} {cs : Scope} {a : Addr} {ccd : Value} {cl : List (Str × Addr)} {outer : List Env} {A₀ : Around} {base h₀ : Heap}
  {L : Addr} {m : Str → Option Value} {rest : List (Addr × Obj)} {s : Shared} {Q E : Value → Shared → Prop}
set_option maxHeartbeats 0 in
theorem clock_ct {lx ld : Addr} {lB : Nat → Tok} {y0 y1 y2 y3 y4 y5 y6 y7 y8 y9 : Tok} {f lo mo tr : Int} (C : Cx w mean mg mb cs outer A₀ base h₀ L m s.heap)
    (N : News h₀ L s.heap ((lx, instObj 844 ld) :: (ld, limD w lB (.int 256 y0) (.int 4 y1) (.int 20 y2) (.int 16 y3) (.int f y4) (.int lo y5) (.int mo y6) (.int tr y7) (.int 2 y8) (.int 12 y9)) :: rest)) (hd : dp + 20 < recursionLimit) (hu : un + 400 < cLine)
    (ret : ∀ (xd ex cd cx : Addr) (kB : Nat → Tok) (t3 t4 t5 : Tok) (jB : Nat → Tok) (u2 u3 : Tok) (h' : Heap) (tk' : Nat), AllLt xd ((lx, instObj 844 ld) :: (ld, limD w lB (.int 256 y0) (.int 4 y1) (.int 20 y2) (.int 16 y3) (.int f y4) (.int lo y5) (.int mo y6) (.int tr y7) (.int 2 y8) (.int 12 y9)) :: rest) → Srt xd [cx, cd, ex, xd] → Fr h₀ L h' m → News h₀ L h' ((xd, estD w kB (.int f y4) (.int lo y5) (.int mo y6) (.int 0 t3) (.int 0 t4) (.int 0 t5)) :: (ex, instObj 377 xd) :: (cd, clkD w jB (.ref ex) (.int tr y7) (.int 0 u2) .none (.int 0 u3)) :: (cx, instObj 321 cd) :: (lx, instObj 844 ld) :: (ld, limD w lB (.int 256 y0) (.int 4 y1) (.int 20 y2) (.int 16 y3) (.int f y4) (.int lo y5) (.int mo y6) (.int tr y7) (.int 2 y8) (.int 12 y9)) :: rest) → Q (.ref cx) { s with heap := h', toks := tk' }) :
    wpAny (model PySem.Challenge.rw_xw0342_01.row.prog w) (ktrTop dp un gd cn cs L a ccd cl outer) (call (.ref 855) [.ref lx]) Q E s := by
  obtain ⟨B, F, X, T0, hk⟩ := C
  refine wpAny_call ?_
  k_dflt cell_enter
  (k_steps; repeat' (unfold Stopped; (first
    | ((with_reducible show wpAny _ _ (call (Value.ref 377) _) _ _ _); k_dflt (refine' estc_ct (by walk_at "zC") (by k_asm) (by ktr_room) (by ktr_units) ?_; k_whole); intro xdE exE kBE t3E t4E t5E h' tkc l1 l2 F' N'; (try dsimp only); (try k_lt l1); (try k_sweep))
    | ((with_reducible show wpAny _ _ (call (Value.ref 321) _) _ _ _); k_dflt (refine' rclk_ct (by walk_at "zC") (by k_asm) (by ktr_room) (by ktr_units) ?_; k_whole); intro cdE cxE jBE u2E u3E h' tkc l1 l2 F' N'; (try dsimp only); (try k_lt l1); (try k_sweep))); k_steps))
  refine' ret _ _ _ _ _ _ _ _ _ _ _ _ _ ?zl ?zs (by k_asm) ?zn
  (case zn => exact (news_w (by assumption) (by (repeat (first | (with_reducible refine Sb.capp ?_) | ((with_reducible refine Sb.cons ?m9 ?_); (case m9 => k_mem)))); (repeat apply Sb.skip); exact Sb.refl)))
  (case zl => assumption)
  (case zs => exact (by (repeat (refine' srt_cons ?a9 ?_; (case a9 => (first | assumption | (refine' lt_in ?h ?m; (case h => with_reducible assumption); (case m => k_mem)) | (refine' srt_lt ?h ?m; (case h => with_reducible assumption); (case m => regTopObjA_mem)) | fail)))); exact srt_nil))
end
/-! csender -/
section
variable {w : World} {mean : ExcName → Option Value} {mg mb : Str → Option Value} {dp un : Nat} {gd : Option (List Code)} {cn : Str} {cs : Scope} {a : Addr} {ccd : Value} {cl : List (Str × Addr)} {outer : List Env} {A₀ : Around} {base h₀ : Heap}
  {L : Addr} {m : Str → Option Value} {rest : List (Addr × Obj)} {s : Shared} {Q E : Value → Shared → Prop}
set_option maxHeartbeats 0 in
theorem sender_ct {w1 w2 w3 w4 : Tok} (C : Cx w mean mg mb cs outer A₀ base h₀ L m s.heap)
    (N : News h₀ L s.heap rest) (hd : dp + 20 < recursionLimit) (hu : un + 400 < cLine)
    (ret : ∀ (sd sx px qd qx : Addr) (iB : Nat → Tok) (hB : Nat → Tok) (h2 : Tok) (h' : Heap) (tk' : Nat), AllLt sd rest → Srt sd [qx, qd, sx, sd] → Fr h₀ L h' m → News h₀ L h' ((sd, sndD w iB (.int 255 w1) (.int 256 w2) (.int 4 w3) (.int 255 w1) (.int 255 w1) (.int 255 w1) (.ref px) (.ref qx) (.bool true) (.bool false) (.bool false)) :: (sx, instObj 666 sd) :: (qx, instObj 433 qd) :: (qd, queD w hB (.int 20 w4) (.bytes #[] h2)) :: rest) → Q (.ref sx) { s with heap := h', toks := tk' }) :
    wpAny (model PySem.Challenge.rw_xw0342_01.row.prog w) (ktrTop dp un gd cn cs L a ccd cl outer) (call (.ref 666) [.int 255 w1, .int 256 w2, .int 4 w3, .int 20 w4]) Q E s := by
  refine' cls_go C N ?hm ?hi ?hf ?ho ?hcd ?hroom ?hbind ?hloc ?hco ?hgen ?hk ?hcell ?_
  (case hm => k_is)
  (case hi => k_is)
  (case hf => k_is)
  (case ho => k_is)
  (case hcd => k_is)
  (case hroom => ktr_room)
  (case hbind => exact fun _ _ _ => BindsTo.of_eq rfl)
  (case hloc => exact fun _ => locs rfl)
  (case hco => exact rfl)
  (case hgen => exact rfl)
  (case hk => exact rfl)
  (case hcell => decide)
  intro x9 d9 g9 L9 h9 tk9 Q9 E9 l91 l92 F1 N1 B1 X1 T1 hq9
  k_dflt (refine' blk_go (self := Str.ofString "self") (n' := 6) X1 ?self ?sk ?hp ?hh ?hk ?hx ?hd (Nat.ne_of_gt l92) (allLt_ne l91) ?b F1 N1 ?fr ?len ?hn9 ?_)
  (case self => exact rfl)
  (case sk => k_is)
  (case hp => k_is)
  (case hh => k_is)
  (case hk => exact rfl)
  (case hx => exact rfl)
  (case hd => decide)
  (case b => exact .cons (by with_unfolding_all rfl) (by k_is) (by first | exact ev_int | exact ev_none | exact ev_bool | exact ev_bytes | exact ev_loc (by rfl) (by rfl) (by rfl) (by decide)) (.cons (by with_unfolding_all rfl) (by k_is) (by first | exact ev_int | exact ev_none | exact ev_bool | exact ev_bytes | exact ev_loc (by rfl) (by rfl) (by rfl) (by decide)) (.cons (by with_unfolding_all rfl) (by k_is) (by first | exact ev_int | exact ev_none | exact ev_bool | exact ev_bytes | exact ev_loc (by rfl) (by rfl) (by rfl) (by decide)) (.cons (by with_unfolding_all rfl) (by k_is) (by first | exact ev_int | exact ev_none | exact ev_bool | exact ev_bytes | exact ev_loc (by rfl) (by rfl) (by rfl) (by decide)) (.cons (by with_unfolding_all rfl) (by k_is) (by first | exact ev_int | exact ev_none | exact ev_bool | exact ev_bytes | exact ev_loc (by rfl) (by rfl) (by rfl) (by decide)) (.cons (by with_unfolding_all rfl) (by k_is) (by first | exact ev_int | exact ev_none | exact ev_bool | exact ev_bytes | exact ev_loc (by rfl) (by rfl) (by rfl) (by decide)) (.nil)))))))
  (case fr => kernel_rfl)
  (case len => exact Nat.le_of_ble_eq_true rfl)
  (case hn9 => exact rfl)
  intro B9 U9 h9 tk9 F9 N9
  (k_steps; repeat' (unfold Stopped; (first
    | ((with_reducible show wpAny _ _ (call (Value.ref 475) _) _ _ _); k_dflt (refine' peer_ct (by walk_at "zC") (by k_asm) (by ktr_room) (by ktr_units) ?_; k_whole); intro vp h' tkc F' N'; (try dsimp only); (try k_sweep))
    | ((with_reducible show wpAny _ _ (call (Value.ref 433) _) _ _ _); k_dflt (refine' queue_ct (by walk_at "zC") (by k_asm) (by ktr_room) (by ktr_units) ?_; k_whole); intro qdQ qxQ hBQ h2Q h' tkc l1 l2 F' N'; (try dsimp only); (try k_lt l1); (try k_sweep))); k_steps))
  refine hq9 _ _ _ _ (by k_asm) (by k_asm) fun kF kN => ?_
  refine' ret _ _ _ _ _ (tkL [_, _, _, _, _, _, _, _, _, _, _]) _ _ _ _ ?zl ?zs kF ?zn
  (case zn => exact (news_w kN (by (repeat (first | (with_reducible refine Sb.capp ?_) | ((with_reducible refine Sb.cons ?m9 ?_); (case m9 => k_mem)))); (repeat apply Sb.skip); exact Sb.refl)))
  (case zl => exact l91)
  (case zs => exact (by (repeat (refine' srt_cons ?a9 ?_; (case a9 => (first | assumption | (refine' lt_in ?h ?m; (case h => with_reducible assumption); (case m => k_mem)) | (refine' srt_lt ?h ?m; (case h => with_reducible assumption); (case m => regTopObjA_mem)) | fail)))); exact srt_nil))
end
/-! take -/
section
variable {w : World} {mean : ExcName → Option Value} {mg mb : Str → Option Value} {dp un : Nat} {gd : Option (List Code)} {cn : Str} {cs : Scope} {a : Addr} {ccd : Value} {cl : List (Str × Addr)} {outer : List Env} {A₀ : Around} {base h₀ : Heap}
  {L : Addr} {m : Str → Option Value} {rest : List (Addr × Obj)} {s : Shared} {Q E : Value → Shared → Prop}
theorem bits_fm (z : Int) : Builtin.Int.intBits (Int.fmod z 2147483647) ≤ 64 :=
  intBits_le_64 (by have := Int.fmod_nonneg_of_pos z (b := 2147483647) (by omega); omega) (by have := Int.fmod_lt_of_pos z (b := 2147483647) (by omega); omega)
local macro_rules | `(tactic| walk_at "binaryOp Mult int int") => `(tactic| (k_here; k_dflt (refine PyProof.Rows.mul_int ?_ (IntMulOk.of_left (bits_fm _)))))
set_option maxHeartbeats 0 in
theorem take_ct {sl : Addr} {x y top : Int} {t1 t2 t3 : Tok} {ep : Nat} (C : Cx w mean mg mb cs outer A₀ base h₀ L m s.heap)
    (N : News h₀ L s.heap ((sl, listOf #[.int x t1, .int y t2] ep) :: rest)) (hR : ∀ p ∈ rest, p.1 ≠ sl) (hd : dp + 5 < recursionLimit) (hu : un + 40 < cLine)
    (h0 : 0 ≤ x) (h1 : 0 ≤ y) (ht : 0 < top) (ht2 : top < 1000)
    (ret : ∀ (r x' y' : Int) (t t1' t2' : Tok) (ep' : Nat) (h' : Heap) (tk' : Nat), 0 ≤ r → r < top → 0 ≤ x' → 0 ≤ y' → Fr h₀ L h' m → News h₀ L h' ((sl, listOf #[.int x' t1', .int y' t2'] ep') :: rest) → Q (.int r t) { s with heap := h', toks := tk' }) :
    wpAny (model PySem.Challenge.rw_xw0342_01.row.prog w) (ktrTop dp un gd cn cs L a ccd cl outer) (call (.ref 975) [.ref sl, .int top t3]) Q E s := by
  obtain ⟨B, F, X, T, hk⟩ := C
  refine wpAny_call ?_
  k_dflt cell_enter
  k_steps
  · refine' ret _ _ _ _ _ _ _ _ _ ?_ ?_ ?_ ?_ (by k_asm) (by k_asm)
    · exact Int.fmod_nonneg_of_pos _ ht
    · exact Int.fmod_lt_of_pos _ ht
    · exact Int.fdiv_nonneg h0 (Int.le_of_lt ht)
    · exact h1
  · refine' ret _ _ _ _ _ _ _ _ _ ?_ ?_ ?_ ?_ (by k_asm) (by k_asm)
    · exact Int.fmod_nonneg_of_pos _ ht
    · exact Int.fmod_lt_of_pos _ ht
    · exact h0
    · exact Int.fmod_nonneg_of_pos _ (by decide)
end
/-! one -/
section
variable {w : World} {mean : ExcName → Option Value} {mg mb : Str → Option Value} {dp un : Nat} {gd : Option (List Code)} {cn : Str} {cs : Scope} {a : Addr} {ccd : Value} {cl : List (Str × Addr)} {outer : List Env} {A₀ : Around} {base h₀ : Heap}
  {L : Addr} {m : Str → Option Value} {rest : List (Addr × Obj)} {s : Shared} {Q E : Value → Shared → Prop}
theorem item_two {prog : Program} {w : World} {A : Around} {value slice : PySem.Expr} {l : Addr} {v0 v1 : Value} {r : Int} {u : Tok} (hl : s.heap.IsList l #[v0, v1]) (h0 : 0 ≤ r) (h1 : r < 2) (h : ∀ v, v = v0 ∨ v = v1 → Q v s)
    (hs : subscripted slice false (.ref l) (.int r u) = operate [.ref l, .int r u] (getItem (.ref l) (.int r u)) := by with_unfolding_all rfl) :
    wpAny (model prog w) A (subscriptTail value slice (.ref l) (.int r u)) Q E s := by
  rcases (show r = 0 ∨ r = 1 by omega) with rfl | rfl
  · exact tail_any hl.typeIs slot_list_getitem.lookup (wpAny_getItem_list hl (by decide) (by decide) rfl (h _ (.inl rfl))) hs
  · exact tail_any hl.typeIs slot_list_getitem.lookup (wpAny_getItem_list hl (by decide) (by decide) rfl (h _ (.inr rfl))) hs
set_option maxHeartbeats 0 in
theorem one_ct {sl tl : Addr} {x y : Int} {t1 t2 : Tok} {ep et : Nat} {v0 v1 : Value} (C : Cx w mean mg mb cs outer A₀ base h₀ L m s.heap)
    (N : News h₀ L s.heap ((sl, listOf #[.int x t1, .int y t2] ep) :: (tl, listOf #[v0, v1] et) :: rest)) (hR : ∀ p ∈ rest, p.1 ≠ sl) (hne : tl ≠ sl) (hd : dp + 7 < recursionLimit) (hu : un + 60 < cLine)
    (h0 : 0 ≤ x) (h1 : 0 ≤ y)
    (ret : ∀ (v : Value) (x' y' : Int) (t1' t2' : Tok) (ep' : Nat) (h' : Heap) (tk' : Nat), v = v0 ∨ v = v1 → 0 ≤ x' → 0 ≤ y' → Fr h₀ L h' m → News h₀ L h' ((sl, listOf #[.int x' t1', .int y' t2'] ep') :: (tl, listOf #[v0, v1] et) :: rest) → Q v { s with heap := h', toks := tk' }) :
    wpAny (model PySem.Challenge.rw_xw0342_01.row.prog w) (ktrTop dp un gd cn cs L a ccd cl outer) (call (.ref 982) [.ref sl, .ref tl]) Q E s := by
  obtain ⟨B, F, X, T, hk⟩ := C
  refine wpAny_call ?_
  k_dflt cell_enter
  (k_steps; repeat' (unfold Stopped; (first
    | ((with_reducible show wpAny _ _ (call (Value.ref 975) _) _ _ _); k_dflt (refine' take_ct (by walk_at "zC") (by walk_at "zN") (by walk_at "zK") (by ktr_room) (by ktr_units) (by walk_at "zO") (by walk_at "zO") (by first | decide | omega) (by first | decide | omega) ?_; k_whole); intro rT xT yT tT t1T t2T epT h' tkT hT0 hT1 hT2 hT3 F' N'; (try dsimp only); (try k_sweep))); k_steps))
  refine' item_two (News.isList (by k_asm) (by k_mem)) (by assumption) (by assumption) (fun v hv => ?_)
  (try dsimp only)
  (k_steps; repeat' (unfold Stopped; (first
    | ((with_reducible show wpAny _ _ (call (Value.ref 975) _) _ _ _); k_dflt (refine' take_ct (by walk_at "zC") (by walk_at "zN") (by walk_at "zK") (by ktr_room) (by ktr_units) (by walk_at "zO") (by walk_at "zO") (by first | decide | omega) (by first | decide | omega) ?_; k_whole); intro rT xT yT tT t1T t2T epT h' tkT hT0 hT1 hT2 hT3 F' N'; (try dsimp only); (try k_sweep))); k_steps))
  refine' ret _ _ _ _ _ _ _ _ hv ?_ ?_ (by k_asm) (by k_asm)
  · assumption
  · assumption
end
/-! est -/
section
variable {w : World} {mean : ExcName → Option Value} {mg mb : Str → Option Value} {dp un : Nat} {gd : Option (List Code)} {cn : Str} {cs : Scope} {a : Addr} {ccd : Value} {cl : List (Str × Addr)} {outer : List Env} {A₀ : Around} {base h₀ : Heap}
  {L : Addr} {m : Str → Option Value} {rest : List (Addr × Obj)} {s : Shared} {Q E : Value → Shared → Prop}
def boundZ (lo mo t : Int) : Int := if t < lo then lo else if mo < t then mo else t
set_option maxHeartbeats 0 in
theorem bounded_ct {ex ed : Addr} {kB : Nat → Tok} {f lo mo m8 s4 ms : Int} {t0 t1 t2 t3 t4 t5 : Tok} {t : Int} {tt : Tok} (C : Cx w mean mg mb cs outer A₀ base h₀ L m s.heap)
    (N : News h₀ L s.heap ((ex, instObj 377 ed) :: (ed, estD w kB (.int f t0) (.int lo t1) (.int mo t2) (.int m8 t3) (.int s4 t4) (.int ms t5)) :: rest)) (hd : dp + 5 < recursionLimit) (hu : un + 40 < cLine)
    (ret : ∀ (z : Int) (t' : Tok) (h' : Heap) (tk' : Nat), (z = boundZ lo mo t) → Fr h₀ L h' m → News h₀ L h' ((ex, instObj 377 ed) :: (ed, estD w kB (.int f t0) (.int lo t1) (.int mo t2) (.int m8 t3) (.int s4 t4) (.int ms t5)) :: rest) → Q (.int z t') { s with heap := h', toks := tk' }) :
    wpAny (model PySem.Challenge.rw_xw0342_01.row.prog w) (ktrTop dp un gd cn cs L a ccd cl outer) (call (.ref 374) [.ref ex, .int t tt]) Q E s := by
  obtain ⟨B, F, X, T, hk⟩ := C
  refine wpAny_call ?_
  k_dflt cell_enter
  k_steps
  all_goals (refine' ret _ _ _ _ ?_ (by k_asm) (by k_asm))
  all_goals (unfold boundZ; (repeat' split) <;> first | rfl | omega | (simp_all; done) | (simp_all; omega))
end
/-! timeout -/
section
variable {w : World} {mean : ExcName → Option Value} {mg mb : Str → Option Value} {dp un : Nat} {gd : Option (List Code)} {cn : Str} {cs : Scope} {a : Addr} {ccd : Value} {cl : List (Str × Addr)} {outer : List Env} {A₀ : Around} {base h₀ : Heap}
  {L : Addr} {m : Str → Option Value} {rest : List (Addr × Obj)} {s : Shared} {Q E : Value → Shared → Prop}
def plainZ (f m8 s4 ms : Int) : Int := if ms = 0 then f else m8.fdiv 8 + s4
set_option maxHeartbeats 0 in
theorem timeout_ct {ex ed : Addr} {kB : Nat → Tok} {f lo mo m8 s4 ms : Int} {t0 t1 t2 t3 t4 t5 : Tok} (C : Cx w mean mg mb cs outer A₀ base h₀ L m s.heap)
    (N : News h₀ L s.heap ((ex, instObj 377 ed) :: (ed, estD w kB (.int f t0) (.int lo t1) (.int mo t2) (.int m8 t3) (.int s4 t4) (.int ms t5)) :: rest)) (hd : dp + 12 < recursionLimit) (hu : un + 100 < cLine)
    (ret : ∀ (z : Int) (t' : Tok) (h' : Heap) (tk' : Nat), (z = boundZ lo mo (plainZ f m8 s4 ms)) → Fr h₀ L h' m → News h₀ L h' ((ex, instObj 377 ed) :: (ed, estD w kB (.int f t0) (.int lo t1) (.int mo t2) (.int m8 t3) (.int s4 t4) (.int ms t5)) :: rest) → Q (.int z t') { s with heap := h', toks := tk' }) :
    wpAny (model PySem.Challenge.rw_xw0342_01.row.prog w) (ktrTop dp un gd cn cs L a ccd cl outer) (call (.ref 367) [.ref ex]) Q E s := by
  obtain ⟨B, F, X, T, hk⟩ := C
  refine wpAny_call ?_
  k_dflt cell_enter
  (k_steps; repeat' (unfold Stopped; (first
    | ((with_reducible show wpAny _ _ (call (Value.ref 374) _) _ _ _); k_dflt (refine' bounded_ct (by walk_at "zC") (by walk_at "zN") (by ktr_room) (by ktr_units) ?_; k_whole); intro zB tB h' tkB eB F' N'; (try dsimp only); (try k_sweep))); k_steps))
  all_goals (refine' ret _ _ _ _ ?_ (by k_asm) (by k_asm))
  all_goals ((rename ((_ : Int) = boundZ _ _ _) => eZ); rw [eZ]; unfold plainZ; congr 1; (repeat' split) <;> first | rfl | omega | (simp_all; done) | (simp_all; omega))
end
/-! waited -/
section
variable {w : World} {mean : ExcName → Option Value} {mg mb : Str → Option Value} {dp un : Nat} {gd : Option (List Code)} {cn : Str} {cs : Scope} {a : Addr} {ccd : Value} {cl : List (Str × Addr)} {outer : List Env} {A₀ : Around} {base h₀ : Heap}
  {L : Addr} {m : Str → Option Value} {rest : List (Addr × Obj)} {s : Shared} {Q E : Value → Shared → Prop}
theorem range_hide {M : Model} {A : Around} {n : Int} {t : Tok} (h : ∀ k : Int, k = n → wpAny M A (call (.type "range") [.int k t]) Q E s) : wpAny M A (call (.type "range") [.int n t]) Q E s := h n rfl
local macro_rules | `(tactic| walk_at "call type:range") => `(tactic| (k_here; (with_reducible show wpAny _ _ (call (Value.type "range") [Value.int 7 _]) _ _ _); refine range_hide ?_; intro k7 hk7))
theorem fold_two (l : List Int) : ∀ x : Int, (l.foldl (fun (σ : Int × Unit) (k : Int) => (2 * σ.fst, ())) (x, ())).fst = 2 ^ l.length * x := by
  induction l with
  | nil => intro x; show x = _; rw [List.length_nil, Int.pow_zero, Int.one_mul]
  | cons a r ih => intro x; rw [List.foldl_cons, ih, List.length_cons, Int.pow_succ]; rw [Int.mul_assoc]
set_option maxHeartbeats 0 in
theorem waited_ct {ex ed : Addr} {kB : Nat → Tok} {f lo mo m8 s4 ms : Int} {t0 t1 t2 t3 t4 t5 : Tok} {cx cd : Addr} {jB : Nat → Tok} {mt te ta : Value} {tr : Int} {u2 : Tok} (C : Cx w mean mg mb cs outer A₀ base h₀ L m s.heap)
    (N : News h₀ L s.heap ((cx, instObj 321 cd) :: (cd, clkD w jB (.ref ex) mt (.int tr u2) (te) (ta)) :: (ex, instObj 377 ed) :: (ed, estD w kB (.int f t0) (.int lo t1) (.int mo t2) (.int m8 t3) (.int s4 t4) (.int ms t5)) :: rest)) (h0 : 0 ≤ tr) (h1 : tr < 10) (hd : dp + 20 < recursionLimit) (hu : un + 200 < cLine)
    (ret : ∀ (z : Int) (t' : Tok) (h' : Heap) (tk' : Nat), (z = boundZ lo mo (2 ^ (min tr 7).toNat * boundZ lo mo (plainZ f m8 s4 ms))) → Fr h₀ L h' m → News h₀ L h' ((cx, instObj 321 cd) :: (cd, clkD w jB (.ref ex) mt (.int tr u2) (te) (ta)) :: (ex, instObj 377 ed) :: (ed, estD w kB (.int f t0) (.int lo t1) (.int mo t2) (.int m8 t3) (.int s4 t4) (.int ms t5)) :: rest) → Q (.int z t') { s with heap := h', toks := tk' }) :
    wpAny (model PySem.Challenge.rw_xw0342_01.row.prog w) (ktrTop dp un gd cn cs L a ccd cl outer) (call (.ref 311) [.ref cx]) Q E s := by
  obtain ⟨B, F, X, T, hk⟩ := C
  refine wpAny_call ?_
  k_dflt cell_enter
  (k_steps; repeat' (unfold Stopped; (first
    | ((with_reducible show wpAny _ _ (call (Value.ref 367) _) _ _ _); k_dflt (refine' timeout_ct (by walk_at "zC") (by walk_at "zN") (by ktr_room) (by ktr_units) ?_; k_whole); intro zT tT h' tkT eT F' N'; (try dsimp only); (try k_sweep))
    | ((with_reducible show wpAny _ _ (call (Value.ref 374) _) _ _ _); k_dflt (refine' bounded_ct (by walk_at "zC") (by walk_at "zN") (by ktr_room) (by ktr_units) ?_; k_whole); intro zB tB h' tkB eB F' N'; (try dsimp only); (try k_sweep))); k_steps))
  all_goals (refine' ret _ _ _ _ ?_ (by k_asm) (news_w (by assumption) (by (repeat (first | (with_reducible refine Sb.capp ?_) | ((with_reducible refine Sb.cons ?m9 ?_); (case m9 => k_mem)))); (repeat apply Sb.skip); exact Sb.refl)))
  all_goals ((rename ((_ : Int) = boundZ lo mo (List.foldl (fun (σ : Int × Unit) (k : Int) => (2 * σ.fst, ())) (_, ()) _).fst) => eB1); (rename ((_ : Int) = boundZ lo mo (plainZ _ _ _ _)) => eT1); refine eB1.trans (congrArg (boundZ lo mo) ((fold_two _ _).trans ?_)); rw [rangeInts_length, eT1])
  all_goals (refine congrArg (fun j : Nat => 2 ^ j * boundZ lo mo (plainZ f m8 s4 ms)) ?_)
  all_goals first | omega | (simp_all; omega)
end
/-! deadline -/
section
variable {w : World} {mean : ExcName → Option Value} {mg mb : Str → Option Value} {dp un : Nat} {gd : Option (List Code)} {cn : Str} {cs : Scope} {a : Addr} {ccd : Value} {cl : List (Str × Addr)} {outer : List Env} {A₀ : Around} {base h₀ : Heap}
  {L : Addr} {m : Str → Option Value} {rest : List (Addr × Obj)} {s : Shared} {Q E : Value → Shared → Prop}
set_option maxHeartbeats 0 in
theorem deadline_ct {ex ed : Addr} {kB : Nat → Tok} {f lo mo m8 s4 ms : Int} {t0 t1 t2 t3 t4 t5 : Tok} {cx cd : Addr} {jB : Nat → Tok} {mt te ta : Value} {tr : Int} {u2 : Tok} {now : Int} {tn : Tok} (C : Cx w mean mg mb cs outer A₀ base h₀ L m s.heap)
    (N : News h₀ L s.heap ((cx, instObj 321 cd) :: (cd, clkD w jB (.ref ex) mt (.int tr u2) (te) (ta)) :: (ex, instObj 377 ed) :: (ed, estD w kB (.int f t0) (.int lo t1) (.int mo t2) (.int m8 t3) (.int s4 t4) (.int ms t5)) :: rest)) (h0 : 0 ≤ tr) (h1 : tr < 10) (hd : dp + 24 < recursionLimit) (hu : un + 260 < cLine)
    (ret : ∀ (z : Int) (t' : Tok) (h' : Heap) (tk' : Nat), (z = now + boundZ lo mo (2 ^ (min tr 7).toNat * boundZ lo mo (plainZ f m8 s4 ms))) → Fr h₀ L h' m → News h₀ L h' ((cx, instObj 321 cd) :: (cd, clkD w jB (.ref ex) mt (.int tr u2) (te) (ta)) :: (ex, instObj 377 ed) :: (ed, estD w kB (.int f t0) (.int lo t1) (.int mo t2) (.int m8 t3) (.int s4 t4) (.int ms t5)) :: rest) → Q (.int z t') { s with heap := h', toks := tk' }) :
    wpAny (model PySem.Challenge.rw_xw0342_01.row.prog w) (ktrTop dp un gd cn cs L a ccd cl outer) (call (.ref 318) [.ref cx, .int now tn]) Q E s := by
  obtain ⟨B, F, X, T, hk⟩ := C
  refine wpAny_call ?_
  k_dflt cell_enter
  (k_steps; repeat' (unfold Stopped; (first
    | ((with_reducible show wpAny _ _ (call (Value.ref 311) _) _ _ _); k_dflt (refine' waited_ct (by walk_at "zC") (by walk_at "zN") (by walk_at "zO") (by walk_at "zO") (by ktr_room) (by ktr_units) ?_; k_whole); intro zW tW h' tkW eW F' N'; (try dsimp only); (try k_sweep))); k_steps))
  all_goals (refine' ret _ _ _ _ ?_ (by k_asm) (news_w (by assumption) (by (repeat (first | (with_reducible refine Sb.capp ?_) | ((with_reducible refine Sb.cons ?m9 ?_); (case m9 => k_mem)))); (repeat apply Sb.skip); exact Sb.refl)))
  all_goals ((rename ((_ : Int) = boundZ lo mo _) => eW1); rw [eW1])
end
/-! flight -/
section
variable {w : World} {mean : ExcName → Option Value} {mg mb : Str → Option Value} {dp un : Nat} {gd : Option (List Code)} {cn : Str} {cs : Scope} {a : Addr} {ccd : Value} {cl : List (Str × Addr)} {outer : List Env} {A₀ : Around} {base h₀ : Heap}
  {L : Addr} {m : Str → Option Value} {rest : List (Addr × Obj)} {s : Shared} {Q E : Value → Shared → Prop}
set_option maxHeartbeats 0 in
theorem flight_ct {sx sd qx : Addr} {iB : Nat → Tok} {ms2 pe fa fs : Value} {ua nx gr : Int} {w1 w2 w4 w5 w6 : Tok} {sp : Bool} (C : Cx w mean mg mb cs outer A₀ base h₀ L m s.heap)
    (N : News h₀ L s.heap ((sx, instObj 666 sd) :: (sd, sndD w iB (.int 255 w1) (.int 256 w2) ms2 (.int ua w4) (.int nx w5) (.int gr w6) pe (.ref qx) (.bool sp) fa fs) :: rest)) (hd : dp + 10 < recursionLimit) (hu : un + 100 < cLine)
    (ret : ∀ (z : Int) (t' : Tok) (h' : Heap) (tk' : Nat), (z = (nx - ua).fmod 256) → Fr h₀ L h' m → News h₀ L h' ((sx, instObj 666 sd) :: (sd, sndD w iB (.int 255 w1) (.int 256 w2) ms2 (.int ua w4) (.int nx w5) (.int gr w6) pe (.ref qx) (.bool sp) fa fs) :: rest) → Q (.int z t') { s with heap := h', toks := tk' }) :
    wpAny (model PySem.Challenge.rw_xw0342_01.row.prog w) (ktrTop dp un gd cn cs L a ccd cl outer) (call (.ref 529) [.ref sx]) Q E s := by
  obtain ⟨B, F, X, T, hk⟩ := C
  refine wpAny_call ?_
  k_dflt cell_enter
  k_steps
  all_goals (refine' ret _ _ _ _ ?_ (by k_asm) (news_w (by assumption) (by (repeat (first | (with_reducible refine Sb.capp ?_) | ((with_reducible refine Sb.cons ?m9 ?_); (case m9 => k_mem)))); (repeat apply Sb.skip); exact Sb.refl)))
  all_goals rfl
end
/-! sent -/
section
variable {w : World} {mean : ExcName → Option Value} {mg mb : Str → Option Value} {dp un : Nat} {gd : Option (List Code)} {cn : Str} {cs : Scope} {a : Addr} {ccd : Value} {cl : List (Str × Addr)} {outer : List Env} {A₀ : Around} {base h₀ : Heap}
  {L : Addr} {m : Str → Option Value} {rest : List (Addr × Obj)} {s : Shared} {Q E : Value → Shared → Prop}
set_option maxHeartbeats 0 in
theorem sent_ct {cx cd : Addr} {jB : Nat → Tok} {mt ta : Value}  {u2 : Tok} {ex : Addr} {se now : Int} {ts tn : Tok} (C : Cx w mean mg mb cs outer A₀ base h₀ L m s.heap)
    (N : News h₀ L s.heap ((cx, instObj 321 cd) :: (cd, clkD w jB (.ref ex) mt (.int 0 u2) (.none) (ta)) :: rest)) (hR : ∀ p ∈ rest, p.1 ≠ cd) (hne : cx ≠ cd) (hd : dp + 8 < recursionLimit) (hu : un + 80 < cLine)
    (ret : ∀  (h' : Heap) (tk' : Nat), Fr h₀ L h' m → News h₀ L h' ((cx, instObj 321 cd) :: (cd, clkD w jB (.ref ex) mt (.int 0 u2) (.int se ts) (.int now tn)) :: rest) → Q .none { s with heap := h', toks := tk' }) :
    wpAny (model PySem.Challenge.rw_xw0342_01.row.prog w) (ktrTop dp un gd cn cs L a ccd cl outer) (call (.ref 276) [.ref cx, .int se ts, .int now tn]) Q E s := by
  obtain ⟨B, F, X, T, hk⟩ := C
  refine wpAny_call ?_
  k_dflt cell_enter
  k_steps
  all_goals (refine' ret _ _ (by k_asm) (news_w (by assumption) (by (repeat (first | (with_reducible refine Sb.capp ?_) | ((with_reducible refine Sb.cons ?m9 ?_); (case m9 => k_mem)))); (repeat apply Sb.skip); exact Sb.refl)))
end
/-! backoff -/
section
variable {w : World} {mean : ExcName → Option Value} {mg mb : Str → Option Value} {dp un : Nat} {gd : Option (List Code)} {cn : Str} {cs : Scope} {a : Addr} {ccd : Value} {cl : List (Str × Addr)} {outer : List Env} {A₀ : Around} {base h₀ : Heap}
  {L : Addr} {m : Str → Option Value} {rest : List (Addr × Obj)} {s : Shared} {Q E : Value → Shared → Prop}
set_option maxHeartbeats 0 in
theorem backoff_ct {cx cd : Addr} {jB : Nat → Tok} {te ta : Value} {tr : Int} {u2 : Tok} {ex : Addr} {mtz : Int} {um : Tok} (C : Cx w mean mg mb cs outer A₀ base h₀ L m s.heap)
    (N : News h₀ L s.heap ((cx, instObj 321 cd) :: (cd, clkD w jB (.ref ex) (.int mtz um) (.int tr u2) (te) (ta)) :: rest)) (hR : ∀ p ∈ rest, p.1 ≠ cd) (hne : cx ≠ cd) (hd : dp + 8 < recursionLimit) (hu : un + 80 < cLine)
    (ret : ∀ (b : Bool) (tr' : Int) (u' : Tok) (h' : Heap) (tk' : Nat), (tr' = tr + 1) → Fr h₀ L h' m → News h₀ L h' ((cx, instObj 321 cd) :: (cd, clkD w jB (.ref ex) (.int mtz um) (.int tr' u') (.none) (ta)) :: rest) → Q (.bool b) { s with heap := h', toks := tk' }) :
    wpAny (model PySem.Challenge.rw_xw0342_01.row.prog w) (ktrTop dp un gd cn cs L a ccd cl outer) (call (.ref 297) [.ref cx]) Q E s := by
  obtain ⟨B, F, X, T, hk⟩ := C
  refine wpAny_call ?_
  k_dflt cell_enter
  k_steps
  all_goals (refine' ret _ _ _ _ _ ?_ (by k_asm) (news_w (by assumption) (by (repeat (first | (with_reducible refine Sb.capp ?_) | ((with_reducible refine Sb.cons ?m9 ?_); (case m9 => k_mem)))); (repeat apply Sb.skip); exact Sb.refl)))
  all_goals rfl
end
/-! sample -/
section
variable {w : World} {mean : ExcName → Option Value} {mg mb : Str → Option Value} {dp un : Nat} {gd : Option (List Code)} {cn : Str} {cs : Scope} {a : Addr} {ccd : Value} {cl : List (Str × Addr)} {outer : List Env} {A₀ : Around} {base h₀ : Heap}
  {L : Addr} {m : Str → Option Value} {rest : List (Addr × Obj)} {s : Shared} {Q E : Value → Shared → Prop}
set_option maxHeartbeats 0 in
theorem sample_ct {ex ed : Addr} {kB : Nat → Tok} {f lo mo : Int} {t0 t1 t2 t5 : Tok} {x : Int} {tx : Tok} {v3 v4 : Value} (C : Cx w mean mg mb cs outer A₀ base h₀ L m s.heap)
    (N : News h₀ L s.heap ((ex, instObj 377 ed) :: (ed, estD w kB (.int f t0) (.int lo t1) (.int mo t2) (v3) (v4) (.int 0 t5)) :: rest)) (hR : ∀ p ∈ rest, p.1 ≠ ed) (hne : ex ≠ ed) (hd : dp + 8 < recursionLimit) (hu : un + 80 < cLine)
    (ret : ∀ (m8 s4 ms : Int) (t3 t4 t5 : Tok) (h' : Heap) (tk' : Nat), (m8 = 8 * x) → (s4 = 2 * x) → (ms = 1) → Fr h₀ L h' m → News h₀ L h' ((ex, instObj 377 ed) :: (ed, estD w kB (.int f t0) (.int lo t1) (.int mo t2) (.int m8 t3) (.int s4 t4) (.int ms t5)) :: rest) → Q .none { s with heap := h', toks := tk' }) :
    wpAny (model PySem.Challenge.rw_xw0342_01.row.prog w) (ktrTop dp un gd cn cs L a ccd cl outer) (call (.ref 346) [.ref ex, .int x tx]) Q E s := by
  obtain ⟨B, F, X, T, hk⟩ := C
  refine wpAny_call ?_
  k_dflt cell_enter
  k_steps
  all_goals (refine' ret _ _ _ _ _ _ _ _ ?_ ?_ ?_ (by k_asm) (news_w (by assumption) (by (repeat (first | (with_reducible refine Sb.capp ?_) | ((with_reducible refine Sb.cons ?m9 ?_); (case m9 => k_mem)))); (repeat apply Sb.skip); exact Sb.refl)))
  all_goals rfl
end
/-! start -/
section
variable {w : World} {mean : ExcName → Option Value} {mg mb : Str → Option Value} {dp un : Nat} {gd : Option (List Code)} {cn : Str} {cs : Scope} {a : Addr} {ccd : Value} {cl : List (Str × Addr)} {outer : List Env} {A₀ : Around} {base h₀ : Heap}
  {L : Addr} {m : Str → Option Value} {rest : List (Addr × Obj)} {s : Shared} {Q E : Value → Shared → Prop}
set_option maxHeartbeats 0 in
theorem start_ct {sx sd qx : Addr} {iB : Nat → Tok} {ms2 pe fa fs : Value}  {w1 w2 w4 w5 w6 : Tok}  (C : Cx w mean mg mb cs outer A₀ base h₀ L m s.heap)
    (N : News h₀ L s.heap ((sx, instObj 666 sd) :: (sd, sndD w iB (.int 255 w1) (.int 256 w2) ms2 (.int 255 w4) (.int 255 w5) (.int 255 w6) pe (.ref qx) (.bool true) fa fs) :: rest)) (hR : ∀ p ∈ rest, p.1 ≠ sd) (hne : sx ≠ sd) (hd : dp + 14 < recursionLimit) (hu : un + 140 < cLine)
    (ret : ∀ (nx gr : Int) (w5 w6 w1' : Tok) (h' : Heap) (tk' : Nat), (nx = 0) → (gr = 0) → Fr h₀ L h' m → News h₀ L h' ((sx, instObj 666 sd) :: (sd, sndD w iB (.int 255 w1) (.int 256 w2) ms2 (.int 255 w4) (.int nx w5) (.int gr w6) pe (.ref qx) (.bool true) fa fs) :: rest) → Q (.int 255 w1') { s with heap := h', toks := tk' }) :
    wpAny (model PySem.Challenge.rw_xw0342_01.row.prog w) (ktrTop dp un gd cn cs L a ccd cl outer) (call (.ref 585) [.ref sx]) Q E s := by
  obtain ⟨B, F, X, T, hk⟩ := C
  refine wpAny_call ?_
  k_dflt cell_enter
  k_steps
  all_goals (refine' ret _ _ _ _ _ _ _ ?_ ?_ (by k_asm) (news_w (by assumption) (by (repeat (first | (with_reducible refine Sb.capp ?_) | ((with_reducible refine Sb.cons ?m9 ?_); (case m9 => k_mem)))); (repeat apply Sb.skip); exact Sb.refl)))
  all_goals rfl
end
/-! cancelin -/
section
variable {w : World} {mean : ExcName → Option Value} {mg mb : Str → Option Value} {dp un : Nat} {gd : Option (List Code)} {cn : Str} {cs : Scope} {a : Addr} {ccd : Value} {cl : List (Str × Addr)} {outer : List Env} {A₀ : Around} {base h₀ : Heap}
  {L : Addr} {m : Str → Option Value} {rest : List (Addr × Obj)} {s : Shared} {Q E : Value → Shared → Prop}
theorem item_is {prog : Program} {w : World} {A : Around} {value slice : PySem.Expr} {l : Addr} {its : List Value} {v : Value} {k : Int} {u : Tok} (hl : s.heap.IsList l its.toArray) (hx : its[k.toNat]? = some v) (h0 : 0 ≤ k) (h1 : k < 2 ^ 63) (h : Q v s)
    (hs : subscripted slice false (.ref l) (.int k u) = operate [.ref l, .int k u] (getItem (.ref l) (.int k u)) := by with_unfolding_all rfl) :
    wpAny (model prog w) A (subscriptTail value slice (.ref l) (.int k u)) Q E s :=
  tail_any hl.typeIs slot_list_getitem.lookup (wpAny_getItem_list hl h0 h1 (by simpa using hx) h) hs
theorem fm16 (t : Int) : 0 ≤ t.fmod 16 ∧ t.fmod 16 < 16 := ⟨Int.fmod_nonneg_of_pos t (by decide), Int.fmod_lt_of_pos t (by decide)⟩
theorem fm16b (t : Int) : t.fmod 16 < 2 ^ 63 := by have := fm16 t; omega
local macro_rules | `(tactic| walk_at "subscriptTail") => `(tactic| (k_here; (with_reducible show wpAny _ _ (subscriptTail _ _ (Value.ref _) (Value.int (Int.fmod _ 16) _)) _ _ _); k_dflt (refine' item_is ?hl ?hx (fm16 _).1 (fm16b _) ?_; (case hx => assumption); (case hl => exact News.isList (by k_asm) (by k_mem)); k_whole)))
theorem rm_ex {k : Int} : ∀ {l : List Value}, kf_ints l = true → l.any (isInt k) = true → ∃ j q, kf_at k l = some j ∧ ki_delL l j = some q ∧ kf_ints q = true ∧ q.length ≤ l.length
  | [], _, h => by cases h
  | x :: r, hi, h => by
    cases x with
    | int i t =>
      cases hx : isInt k (.int i t) with
      | true => exact ⟨0, r, by simp only [kf_at, hx, cond_true], rfl, hi, Nat.le_succ _⟩
      | false =>
        obtain ⟨j, q, a, b, c, d⟩ := rm_ex (l := r) hi (by rw [List.any_cons, hx, Bool.false_or] at h; exact h)
        exact ⟨j + 1, .int i t :: q, by simp only [kf_at, hx, cond_false, a], by simp only [ki_delL, b], c, Nat.succ_le_succ d⟩
    | _ => cases hi
local macro_rules | `(tactic| walk_at "compareOp In int ref") => `(tactic| (k_here; k_dflt (first
  | (refine' kda_in (knd := intKind _ _) ?N ?hp ?hd ?lo (intKind_is _ _ _ _) true ?hb ?_; (case N => k_asm); (case hd => assumption); (case hp => k_mem); (case lo => assumption); (case hb => (rw [‹valueAt _ _ = some _›]; rfl)); k_whole)
  | (refine' kf_in (b := false) ?N ?m ?i ?e ?_; (case N => k_asm); (case m => k_mem); (case i => rfl); (case e => rfl); k_whole))))
set_option maxHeartbeats 0 in
theorem cancel_in_ct {wx wd sl lt ed : Addr} {qB : Nat → Tok} {z0 : Tok} {gv : Value} {its : List Value} {esl elt : Nat} {o : Obj} {kvs : List (Int × Value)} {ta sa : Addr} {time ord key : Int} {u1 u2 tk : Tok} {ks : Array Value} {eks : Nat} (C : Cx w mean mg mb cs outer A₀ base h₀ L m s.heap)
    (N : News h₀ L s.heap ((wx, instObj 823 wd) :: (wd, whlD w qB (.int 16 z0) (.ref sl) (.ref lt) (.ref ed) .none (gv)) :: (sl, listOf its.toArray esl) :: (lt, listOf #[] elt) :: (ed, o) :: (ta, ({ cls := .type "tuple", data := .seq #[.int time u1, .int ord u2] } : Obj)) :: (sa, listOf ks eks) :: rest)) (ho : o.IsDictOf (intKind PySem.Challenge.rw_xw0342_01.row.prog w) kvs) (lo : (ed == sysModules) = false) (hv : valueAt kvs key = some (.ref ta)) (hn : kvs.length ≤ 1000) (hi : its[(time.fmod 16).toNat]? = some (.ref sa)) (hl16 : its.length = 16) (hks : kf_ints ks.toList = true) (hz : ks.size ≤ 100000) (hD : @Ne Nat wx ed ∧ @Ne Nat wd ed ∧ @Ne Nat sl ed ∧ @Ne Nat lt ed ∧ @Ne Nat ta ed ∧ @Ne Nat sa ed ∧ @Ne Nat wx sa ∧ @Ne Nat wd sa ∧ @Ne Nat sl sa ∧ @Ne Nat lt sa ∧ @Ne Nat ta sa) (hR1 : ∀ p ∈ rest, p.1 ≠ ed) (hR2 : ∀ p ∈ rest, p.1 ≠ sa) (hd : dp + 10 < recursionLimit) (hu : un + 100 < cLine)
    (ret : ∀ (o' : Obj) (ks' : Array Value) (eks' : Nat) (h' : Heap) (tk' : Nat), (o'.IsDictOf (intKind PySem.Challenge.rw_xw0342_01.row.prog w) (without kvs key)) → (kf_ints ks'.toList = true) → (ks'.size ≤ ks.size) → Fr h₀ L h' m → News h₀ L h' ((wx, instObj 823 wd) :: (wd, whlD w qB (.int 16 z0) (.ref sl) (.ref lt) (.ref ed) .none (gv)) :: (sl, listOf its.toArray esl) :: (lt, listOf #[] elt) :: (ed, o') :: (ta, ({ cls := .type "tuple", data := .seq #[.int time u1, .int ord u2] } : Obj)) :: (sa, listOf ks' eks') :: rest) → Q .none { s with heap := h', toks := tk' }) :
    wpAny (model PySem.Challenge.rw_xw0342_01.row.prog w) (ktrTop dp un gd cn cs L a ccd cl outer) (call (.ref 796) [.ref wx, .int key tk]) Q E s := by
  obtain ⟨B, F, X, T, hk⟩ := C
  refine wpAny_call ?_
  k_dflt cell_enter
  k_steps
  refine' kob_pop (knd := intKind _ _) (more := []) ?F ?N ?U ho (intKind_is _ _ _ _) (.inl rfl) (by rfl) (PySem.F.args_dict_pop_2 _ _) hv ?z ?_
  (case F => k_asm)
  (case N => k_asm)
  (case U => k_updF)
  (case z => (rw [sizeLine_eq]; omega))
  intro h' o2 F' N' ho2
  (try dsimp only at N')
  (try dsimp only)
  k_sweep
  k_steps
  cases hb : ks.toList.any (isInt key) with
  | false =>
    refine' kf_in (b := false) (by k_asm) (by k_mem) hks hb ?_
    (try dsimp only)
    k_steps
    exact ret _ _ _ _ _ ho2 hks (Nat.le_refl _) (by k_asm) (news_w (by assumption) (by (repeat (first | (with_reducible refine Sb.capp ?_) | ((with_reducible refine Sb.cons ?m9 ?_); (case m9 => k_mem)))); (repeat apply Sb.skip); exact Sb.refl))
  | true =>
    obtain ⟨j, q, e1, e2, e3, e4⟩ := rm_ex hks hb
    refine' kf_in (b := true) (by k_asm) (by k_mem) hks hb ?_
    (try dsimp only)
    k_steps
    refine' kf_remove ?F ?N hks e1 e2 ?U ?z ?_
    (case F => k_asm)
    (case N => k_asm)
    (case U => k_upd)
    (case z => (rw [sizeLine_eq, Array.length_toList]; omega))
    intro h' F' N'
    k_sweep
    k_steps
    refine' ret _ _ _ _ _ ho2 ?_ ?_ (by k_asm) (news_w (by assumption) (by (repeat (first | (with_reducible refine Sb.capp ?_) | ((with_reducible refine Sb.cons ?m9 ?_); (case m9 => k_mem)))); (repeat apply Sb.skip); exact Sb.refl))
    · simpa using e3
    · simpa using e4
end
/-! cancelout -/
section
variable {w : World} {mean : ExcName → Option Value} {mg mb : Str → Option Value} {dp un : Nat} {gd : Option (List Code)} {cn : Str} {cs : Scope} {a : Addr} {ccd : Value} {cl : List (Str × Addr)} {outer : List Env} {A₀ : Around} {base h₀ : Heap}
  {L : Addr} {m : Str → Option Value} {rest : List (Addr × Obj)} {s : Shared} {Q E : Value → Shared → Prop}
set_option maxHeartbeats 0 in
theorem cancel_out_ct {wx wd sl lt ed : Addr} {qB : Nat → Tok} {z0 : Tok} {gv : Value} {o : Obj} {kvs : List (Int × Value)} {key : Int} {tk : Tok} (C : Cx w mean mg mb cs outer A₀ base h₀ L m s.heap)
    (N : News h₀ L s.heap ((wx, instObj 823 wd) :: (wd, whlD w qB (.int 16 z0) (.ref sl) (.ref lt) (.ref ed) .none (gv)) :: (ed, o) :: rest)) (ho : o.IsDictOf (intKind PySem.Challenge.rw_xw0342_01.row.prog w) kvs) (lo : (ed == sysModules) = false) (hv : valueAt kvs key = none) (hd : dp + 10 < recursionLimit) (hu : un + 100 < cLine)
    (ret : ∀  (h' : Heap) (tk' : Nat), Fr h₀ L h' m → News h₀ L h' ((wx, instObj 823 wd) :: (wd, whlD w qB (.int 16 z0) (.ref sl) (.ref lt) (.ref ed) .none (gv)) :: (ed, o) :: rest) → Q .none { s with heap := h', toks := tk' }) :
    wpAny (model PySem.Challenge.rw_xw0342_01.row.prog w) (ktrTop dp un gd cn cs L a ccd cl outer) (call (.ref 796) [.ref wx, .int key tk]) Q E s := by
  obtain ⟨B, F, X, T, hk⟩ := C
  refine wpAny_call ?_
  k_dflt cell_enter
  k_steps
  refine' kda_in (knd := intKind _ _) (by k_asm) (by k_mem) ho lo (intKind_is _ _ _ _) false (by rw [hv]; rfl) ?_
  (try dsimp only)
  k_steps
  exact ret _ _ (by k_asm) (news_w (by assumption) (by (repeat (first | (with_reducible refine Sb.capp ?_) | ((with_reducible refine Sb.cons ?m9 ?_); (case m9 => k_mem)))); (repeat apply Sb.skip); exact Sb.refl))
end
/-! listof -/
section
variable {w : World} {mean : ExcName → Option Value} {mg mb : Str → Option Value} {dp un : Nat} {gd : Option (List Code)} {cn : Str} {cs : Scope} {a : Addr} {ccd : Value} {cl : List (Str × Addr)} {outer : List Env} {A₀ : Around} {base h₀ : Heap}
  {L : Addr} {m : Str → Option Value} {rest : List (Addr × Obj)} {s : Shared} {Q E : Value → Shared → Prop}
theorem fmn (t n : Int) (h : n = 16) : t.fmod n = t.fmod 16 := by rw [h]
set_option maxHeartbeats 0 in
theorem listof_ct {wx wd sl lt ed : Addr} {qB : Nat → Tok} {z0 : Tok} {gv : Value} {its : List Value} {esl elt : Nat}  {time : Int} {ut : Tok} {sa : Addr} (C : Cx w mean mg mb cs outer A₀ base h₀ L m s.heap)
    (N : News h₀ L s.heap ((wx, instObj 823 wd) :: (wd, whlD w qB (.int 16 z0) (.ref sl) (.ref lt) (.ref ed) .none (gv)) :: (sl, listOf its.toArray esl) :: rest)) (hi : its[(time.fmod 16).toNat]? = some (.ref sa)) (hd : dp + 8 < recursionLimit) (hu : un + 80 < cLine)
    (ret : ∀  (h' : Heap) (tk' : Nat), Fr h₀ L h' m → News h₀ L h' ((wx, instObj 823 wd) :: (wd, whlD w qB (.int 16 z0) (.ref sl) (.ref lt) (.ref ed) .none (gv)) :: (sl, listOf its.toArray esl) :: rest) → Q (.ref sa) { s with heap := h', toks := tk' }) :
    wpAny (model PySem.Challenge.rw_xw0342_01.row.prog w) (ktrTop dp un gd cn cs L a ccd cl outer) (call (.ref 789) [.ref wx, .int time ut]) Q E s := by
  obtain ⟨B, F, X, T, hk⟩ := C
  refine wpAny_call ?_
  k_dflt cell_enter
  k_steps
  refine' item_is (News.isList (by k_asm) (by k_mem)) hi (fm16 _).1 (fm16b _) ?_
  (try dsimp only)
  k_steps
  exact ret _ _ (by k_asm) (news_w (by assumption) (by (repeat (first | (with_reducible refine Sb.capp ?_) | ((with_reducible refine Sb.cons ?m9 ?_); (case m9 => k_mem)))); (repeat apply Sb.skip); exact Sb.refl))
end
/-! timein -/
section
variable {w : World} {mean : ExcName → Option Value} {mg mb : Str → Option Value} {dp un : Nat} {gd : Option (List Code)} {cn : Str} {cs : Scope} {a : Addr} {ccd : Value} {cl : List (Str × Addr)} {outer : List Env} {A₀ : Around} {base h₀ : Heap}
  {L : Addr} {m : Str → Option Value} {rest : List (Addr × Obj)} {s : Shared} {Q E : Value → Shared → Prop}
set_option maxHeartbeats 0 in
theorem time_in_ct {wx wd sl lt ed : Addr} {qB : Nat → Tok} {z0 : Tok} {gv : Value} {o : Obj} {kvs : List (Int × Value)} {ta : Addr} {time ord key : Int} {u1 u2 tk : Tok} (C : Cx w mean mg mb cs outer A₀ base h₀ L m s.heap)
    (N : News h₀ L s.heap ((wx, instObj 823 wd) :: (wd, whlD w qB (.int 16 z0) (.ref sl) (.ref lt) (.ref ed) .none (gv)) :: (ed, o) :: (ta, ({ cls := .type "tuple", data := .seq #[.int time u1, .int ord u2] } : Obj)) :: rest)) (ho : o.IsDictOf (intKind PySem.Challenge.rw_xw0342_01.row.prog w) kvs) (lo : (ed == sysModules) = false) (hv : valueAt kvs key = some (.ref ta)) (hd : dp + 8 < recursionLimit) (hu : un + 80 < cLine)
    (ret : ∀  (h' : Heap) (tk' : Nat), Fr h₀ L h' m → News h₀ L h' ((wx, instObj 823 wd) :: (wd, whlD w qB (.int 16 z0) (.ref sl) (.ref lt) (.ref ed) .none (gv)) :: (ed, o) :: (ta, ({ cls := .type "tuple", data := .seq #[.int time u1, .int ord u2] } : Obj)) :: rest) → Q (.int time u1) { s with heap := h', toks := tk' }) :
    wpAny (model PySem.Challenge.rw_xw0342_01.row.prog w) (ktrTop dp un gd cn cs L a ccd cl outer) (call (.ref 803) [.ref wx, .int key tk]) Q E s := by
  obtain ⟨B, F, X, T, hk⟩ := C
  refine wpAny_call ?_
  k_dflt cell_enter
  k_steps
  refine' kda_in (knd := intKind _ _) (by k_asm) (by k_mem) ho lo (intKind_is _ _ _ _) true (by rw [hv]; rfl) ?_
  (try dsimp only)
  k_steps
  refine' kdt_getItem (knd := intKind _ _) (by k_asm) (by k_mem) ho (intKind_is _ _ _ _) hv ?_
  (try dsimp only)
  k_steps
  exact ret _ _ (by k_asm) (news_w (by assumption) (by (repeat (first | (with_reducible refine Sb.capp ?_) | ((with_reducible refine Sb.cons ?m9 ?_); (case m9 => k_mem)))); (repeat apply Sb.skip); exact Sb.refl))
end
/-! timeout2 -/
section
variable {w : World} {mean : ExcName → Option Value} {mg mb : Str → Option Value} {dp un : Nat} {gd : Option (List Code)} {cn : Str} {cs : Scope} {a : Addr} {ccd : Value} {cl : List (Str × Addr)} {outer : List Env} {A₀ : Around} {base h₀ : Heap}
  {L : Addr} {m : Str → Option Value} {rest : List (Addr × Obj)} {s : Shared} {Q E : Value → Shared → Prop}
set_option maxHeartbeats 0 in
theorem time_out_ct {wx wd sl lt ed : Addr} {qB : Nat → Tok} {z0 : Tok} {gv : Value} {o : Obj} {kvs : List (Int × Value)} {key : Int} {tk : Tok} (C : Cx w mean mg mb cs outer A₀ base h₀ L m s.heap)
    (N : News h₀ L s.heap ((wx, instObj 823 wd) :: (wd, whlD w qB (.int 16 z0) (.ref sl) (.ref lt) (.ref ed) .none (gv)) :: (ed, o) :: rest)) (ho : o.IsDictOf (intKind PySem.Challenge.rw_xw0342_01.row.prog w) kvs) (lo : (ed == sysModules) = false) (hv : valueAt kvs key = none) (hd : dp + 8 < recursionLimit) (hu : un + 80 < cLine)
    (ret : ∀  (h' : Heap) (tk' : Nat), Fr h₀ L h' m → News h₀ L h' ((wx, instObj 823 wd) :: (wd, whlD w qB (.int 16 z0) (.ref sl) (.ref lt) (.ref ed) .none (gv)) :: (ed, o) :: rest) → Q .none { s with heap := h', toks := tk' }) :
    wpAny (model PySem.Challenge.rw_xw0342_01.row.prog w) (ktrTop dp un gd cn cs L a ccd cl outer) (call (.ref 803) [.ref wx, .int key tk]) Q E s := by
  obtain ⟨B, F, X, T, hk⟩ := C
  refine wpAny_call ?_
  k_dflt cell_enter
  k_steps
  refine' kda_in (knd := intKind _ _) (by k_asm) (by k_mem) ho lo (intKind_is _ _ _ _) false (by rw [hv]; rfl) ?_
  (try dsimp only)
  k_steps
  exact ret _ _ (by k_asm) (news_w (by assumption) (by (repeat (first | (with_reducible refine Sb.capp ?_) | ((with_reducible refine Sb.cons ?m9 ?_); (case m9 => k_mem)))); (repeat apply Sb.skip); exact Sb.refl))
end
/-! wheel -/
section
variable {w : World} {mean : ExcName → Option Value} {mg mb : Str → Option Value} {dp un : Nat} {gd : Option (List Code)} {cn : Str} {cs : Scope} {a : Addr} {ccd : Value} {cl : List (Str × Addr)} {outer : List Env} {A₀ : Around} {base h₀ : Heap}
  {L : Addr} {m : Str → Option Value} {rest : List (Addr × Obj)} {s : Shared} {Q E : Value → Shared → Prop}
/-! ## the wheel, abstractly: which key stands at which time -/
structure Ent where
  key : Int
  ta : Addr
  time : Int
  u1 : Tok
  ord : Int
  u2 : Tok
structure Slt where
  sa : Addr
  ks : Array Value
  ep : Nat
abbrev tupO (time : Int) (u1 : Tok) (ord : Int) (u2 : Tok) : Obj := { cls := .type "tuple", data := .seq #[.int time u1, .int ord u2] }
def entL (es : List Ent) : List (Addr × Obj) := es.map fun e => (e.ta, tupO e.time e.u1 e.ord e.u2)
def kvsE (es : List Ent) : List (Int × Value) := es.map fun e => (e.key, Value.ref e.ta)
def slotL (ss : List Slt) : List (Addr × Obj) := ss.map fun x => (x.sa, listOf x.ks x.ep)
def itsE (ss : List Slt) : List Value := ss.map fun x => Value.ref x.sa
def tms (es : List Ent) : List (Int × Int) := es.map fun e => (e.key, e.time)
structure WhT (w : World) (sl lt ed : Addr) (n : Nat) (T : List (Int × Int)) (WT : List (Addr × Obj)) (esl elt : Nat) (o : Obj) (ss : List Slt) (es : List Ent) : Prop where
  eq : WT = (sl, listOf (itsE ss).toArray esl) :: (lt, listOf #[] elt) :: (ed, o) :: (slotL ss ++ entL es)
  len : ss.length = 16
  ok : ∀ x ∈ ss, kf_ints x.ks.toList = true ∧ x.ks.size ≤ n
  dict : o.IsDictOf (intKind PySem.Challenge.rw_xw0342_01.row.prog w) (kvsE es)
  lo : (ed == sysModules) = false
  tm : tms es = T
  nd : (sl :: lt :: ed :: (ss.map (·.sa) ++ es.map (·.ta))).Nodup
  small : es.length ≤ n
def WheelT (w : World) (sl lt ed : Addr) (n : Nat) (T : List (Int × Int)) (WT : List (Addr × Obj)) : Prop := ∃ esl elt o ss es, WhT w sl lt ed n T WT esl elt o ss es
theorem slotL_app (a b : List Slt) : slotL (a ++ b) = slotL a ++ slotL b := List.map_append
theorem entL_app (a b : List Ent) : entL (a ++ b) = entL a ++ entL b := List.map_append
theorem slotL_cons (x : Slt) (b : List Slt) : slotL (x :: b) = (x.sa, listOf x.ks x.ep) :: slotL b := rfl
theorem entL_cons (x : Ent) (b : List Ent) : entL (x :: b) = (x.ta, tupO x.time x.u1 x.ord x.u2) :: entL b := rfl
theorem slotL_mem {ss : List Slt} {p : Addr × Obj} (h : p ∈ slotL ss) : p.1 ∈ ss.map (·.sa) := by
  obtain ⟨x, hx, rfl⟩ := List.mem_map.mp h
  exact List.mem_map.mpr ⟨x, hx, rfl⟩
theorem entL_mem {es : List Ent} {p : Addr × Obj} (h : p ∈ entL es) : p.1 ∈ es.map (·.ta) := by
  obtain ⟨x, hx, rfl⟩ := List.mem_map.mp h
  exact List.mem_map.mpr ⟨x, hx, rfl⟩
theorem at_split {α : Type} {l : List α} {i : Nat} (h : i < l.length) : ∃ a x b, l = a ++ x :: b ∧ a.length = i :=
  ⟨l.take i, l[i], l.drop (i + 1), by rw [← List.drop_eq_getElem_cons h, List.take_append_drop], by rw [List.length_take]; omega⟩
theorem keys_nd {w : World} {o : Obj} {es : List Ent} (h : o.IsDictOf (intKind PySem.Challenge.rw_xw0342_01.row.prog w) (kvsE es)) : (es.map (·.key)).Nodup := by
  have := keysNodup_of_isDictOf h
  rwa [show (kvsE es).map (·.1) = es.map (·.key) from by simp [kvsE]] at this
theorem ne_keys {pre post : List Ent} {e : Ent} (h : ((pre ++ e :: post).map (·.key)).Nodup) : ∀ x ∈ pre ++ post, x.key ≠ e.key := by
  rw [List.map_append, List.map_cons] at h
  have h2 := (List.nodup_append.mp h)
  intro x hx
  rcases List.mem_append.mp hx with hx | hx
  · exact h2.2.2 _ (List.mem_map.mpr ⟨x, hx, rfl⟩) _ (List.mem_cons_self ..)
  · exact fun q => (List.nodup_cons.mp h2.2.1).1 (q ▸ List.mem_map.mpr ⟨x, hx, rfl⟩)
theorem filt_key {pre post : List Ent} {e : Ent} (h : ((pre ++ e :: post).map (·.key)).Nodup) : (pre ++ e :: post).filter (fun x => !(x.key == e.key)) = pre ++ post := by
  have q := ne_keys h
  have f : ∀ l : List Ent, (∀ x ∈ l, x.key ≠ e.key) → l.filter (fun x => !(x.key == e.key)) = l := fun l hl => List.filter_eq_self.mpr fun x hx => by simpa using hl x hx
  rw [List.filter_append, List.filter_cons, f pre fun x hx => q x (List.mem_append_left _ hx), f post fun x hx => q x (List.mem_append_right _ hx)]
  simp
theorem tms_filt (es : List Ent) (k : Int) : (tms es).filter (fun p => !(p.1 == k)) = tms (es.filter fun x => !(x.key == k)) := by
  unfold tms
  rw [List.filter_map]
  rfl
theorem without_filt (es : List Ent) (k : Int) : without (kvsE es) k = kvsE (es.filter fun x => !(x.key == k)) := by
  unfold without kvsE
  rw [List.filter_map]
  congr 1
  apply List.filter_congr
  intro x _
  show decide (x.key ≠ k) = !(x.key == k)
  by_cases h : x.key = k <;> simp [h]
theorem valueAt_in {w : World} {o : Obj} {pre post : List Ent} {e : Ent} (h : o.IsDictOf (intKind PySem.Challenge.rw_xw0342_01.row.prog w) (kvsE (pre ++ e :: post))) : valueAt (kvsE (pre ++ e :: post)) e.key = some (.ref e.ta) :=
  valueAt_of_get (i := pre.length) (keysNodup_of_isDictOf h) (by simp [kvsE])
theorem valueAt_out {es : List Ent} {k : Int} (h : ∀ e ∈ es, e.key ≠ k) : valueAt (kvsE es) k = none := by
  unfold valueAt kvsE
  rw [List.find?_eq_none.mpr, Option.map_none]
  intro x hx
  obtain ⟨e, he, rfl⟩ := List.mem_map.mp hx
  simpa using h e he
theorem its_at {a b : List Slt} {x : Slt} {i : Nat} (h : a.length = i) : (itsE (a ++ x :: b))[i]? = some (.ref x.sa) := by
  subst h
  simp [itsE]
theorem its_len (ss : List Slt) : (itsE ss).length = ss.length := by simp [itsE]
end
/-! cancel -/
section
variable {w : World} {mean : ExcName → Option Value} {mg mb : Str → Option Value} {dp un : Nat} {gd : Option (List Code)} {cn : Str} {cs : Scope} {a : Addr} {ccd : Value} {cl : List (Str × Addr)} {outer : List Env} {A₀ : Around} {base h₀ : Heap}
  {L : Addr} {m : Str → Option Value} {rest : List (Addr × Obj)} {s : Shared} {Q E : Value → Shared → Prop}
set_option maxHeartbeats 0 in
theorem cancel_ct {wx wd sl lt ed : Addr} {qB : Nat → Tok} {z0 : Tok} {gv : Value} {n : Nat} {T : List (Int × Int)} {WT : List (Addr × Obj)} {key : Int} {tk : Tok} (C : Cx w mean mg mb cs outer A₀ base h₀ L m s.heap)
    (N : News h₀ L s.heap ((wx, instObj 823 wd) :: (wd, whlD w qB (.int 16 z0) (.ref sl) (.ref lt) (.ref ed) .none (gv)) :: (rest ++ WT))) (hW : WheelT w sl lt ed n T WT) (hn : n ≤ 1000) (hA1 : ∀ p ∈ WT, p.1 ≠ wx) (hA2 : ∀ p ∈ WT, p.1 ≠ wd) (hA3 : ∀ q ∈ rest, ∀ p ∈ WT, p.1 ≠ q.1) (hd : dp + 12 < recursionLimit) (hu : un + 120 < cLine)
    (ret : ∀ (WT' : List (Addr × Obj)) (h' : Heap) (tk' : Nat), (WheelT w sl lt ed n (T.filter fun p => !(p.1 == key)) WT') → (∀ p ∈ WT', p.1 ≠ wx) → (∀ p ∈ WT', p.1 ≠ wd) → (∀ q ∈ rest, ∀ p ∈ WT', p.1 ≠ q.1) → Fr h₀ L h' m → News h₀ L h' ((wx, instObj 823 wd) :: (wd, whlD w qB (.int 16 z0) (.ref sl) (.ref lt) (.ref ed) .none (gv)) :: (rest ++ WT')) → Q .none { s with heap := h', toks := tk' }) :
    wpAny (model PySem.Challenge.rw_xw0342_01.row.prog w) (ktrTop dp un gd cn cs L a ccd cl outer) (call (.ref 796) [.ref wx, .int key tk]) Q E s := by
  obtain ⟨esl, elt, o, ss, es, W⟩ := hW
  have hWT := W.eq
  subst hWT
  have mem : ∀ p, p ∈ (wx, instObj 823 wd) :: (wd, whlD w qB (.int 16 z0) (.ref sl) (.ref lt) (.ref ed) .none (gv)) :: (rest ++ (sl, listOf (itsE ss).toArray esl) :: (lt, listOf #[] elt) :: (ed, o) :: (slotL ss ++ entL es)) → News h₀ L s.heap [p] := fun p hp q hq => by
    rw [List.mem_singleton.mp hq]; exact N p hp
  by_cases hk : ∃ e ∈ es, e.key = key
  · obtain ⟨e, he, rfl⟩ := hk
    obtain ⟨pre, post, rfl⟩ := List.append_of_mem he
    have hf := fm16 e.time
    obtain ⟨sp, x, sq, rfl, hx⟩ := at_split (l := ss) (i := (e.time.fmod 16).toNat) (by have := W.len; omega)
    have nd := W.nd
    have ok := W.ok x (by simp)
    have hsm := W.small
    have N' : News h₀ L s.heap ((wx, instObj 823 wd) :: (wd, whlD w qB (.int 16 z0) (.ref sl) (.ref lt) (.ref ed) .none (gv)) :: (sl, listOf (itsE (sp ++ x :: sq)).toArray esl) :: (lt, listOf #[] elt) :: (ed, o) :: (e.ta, tupO e.time e.u1 e.ord e.u2) :: (x.sa, listOf x.ks x.ep) :: (rest ++ (slotL sp ++ slotL sq ++ entL pre ++ entL post))) := fun p hp => N p (by
      simp only [slotL_app, entL_app, slotL_cons, entL_cons, List.mem_cons, List.mem_append] at hp ⊢
      grind)
    have key1 : ∀ p ∈ slotL sp ++ slotL sq ++ entL pre ++ entL post, p.1 ≠ ed ∧ p.1 ≠ x.sa := by
      intro p hp
      simp only [List.mem_append] at hp
      simp only [List.map_append, List.map_cons, List.nodup_cons, List.nodup_append, List.mem_cons, List.mem_append] at nd
      rcases hp with ((hp | hp) | hp) | hp
      · have := slotL_mem hp; grind
      · have := slotL_mem hp; grind
      · have := entL_mem hp; grind
      · have := entL_mem hp; grind
    refine cancel_in_ct C N' W.dict W.lo (valueAt_in W.dict) (by simp only [kvsE, List.length_map]; omega) (its_at hx) (by rw [its_len]; exact W.len) ok.1 (by omega) ?hD ?h1 ?h2 (by omega) (by omega) ?_
    case hD =>
      have a1 := hA1 (ed, o) (by simp)
      have a2 := hA2 (ed, o) (by simp)
      have a3 := hA1 (x.sa, listOf x.ks x.ep) (by simp [slotL_app, slotL_cons])
      have a4 := hA2 (x.sa, listOf x.ks x.ep) (by simp [slotL_app, slotL_cons])
      simp only [List.map_append, List.map_cons, List.nodup_cons, List.nodup_append, List.mem_cons, List.mem_append] at nd
      refine ⟨fun h => a1 h.symm, fun h => a2 h.symm, ?_, ?_, ?_, ?_, fun h => a3 h.symm, fun h => a4 h.symm, ?_, ?_, ?_⟩ <;> grind
    case h1 =>
      intro p hp
      rcases List.mem_append.mp hp with hp | hp
      · exact fun h => hA3 p hp (ed, o) (by simp) h.symm
      · exact (key1 p hp).1
    case h2 =>
      intro p hp
      rcases List.mem_append.mp hp with hp | hp
      · exact fun h => hA3 p hp (x.sa, listOf x.ks x.ep) (by simp [slotL_app, slotL_cons]) h.symm
      · exact (key1 p hp).2
    intro o' ks' eks' h' tk' ho' hk' hz' F' N''
    have hfk := filt_key (keys_nd W.dict)
    have hits : itsE (sp ++ x :: sq) = itsE (sp ++ ⟨x.sa, ks', eks'⟩ :: sq) := by simp [itsE]
    have sub : ∀ p ∈ (sl, listOf (itsE (sp ++ ⟨x.sa, ks', eks'⟩ :: sq)).toArray esl) :: (lt, listOf #[] elt) :: (ed, o') :: (slotL (sp ++ ⟨x.sa, ks', eks'⟩ :: sq) ++ entL (pre ++ post)), ∃ q ∈ (sl, listOf (itsE (sp ++ x :: sq)).toArray esl) :: (lt, listOf #[] elt) :: (ed, o) :: (slotL (sp ++ x :: sq) ++ entL (pre ++ e :: post)), q.1 = p.1 := by
      intro p hp
      simp only [slotL_app, entL_app, slotL_cons, entL_cons, List.mem_cons, List.mem_append] at hp
      rcases hp with rfl | rfl | rfl | (hp | rfl | hp) | hp | hp
      · exact ⟨_, .head _, rfl⟩
      · exact ⟨_, .tail _ (.head _), rfl⟩
      · exact ⟨(ed, o), .tail _ (.tail _ (.head _)), rfl⟩
      · exact ⟨p, by simp only [slotL_app, List.mem_cons, List.mem_append]; exact .inr (.inr (.inr (.inl (.inl hp)))), rfl⟩
      · exact ⟨(x.sa, listOf x.ks x.ep), by simp [slotL_app, slotL_cons], rfl⟩
      · exact ⟨p, by simp only [slotL_app, slotL_cons, List.mem_cons, List.mem_append]; exact .inr (.inr (.inr (.inl (.inr (.inr hp))))), rfl⟩
      · exact ⟨p, by simp only [entL_app, List.mem_cons, List.mem_append]; exact .inr (.inr (.inr (.inr (.inl hp)))), rfl⟩
      · exact ⟨p, by simp only [entL_app, entL_cons, List.mem_cons, List.mem_append]; exact .inr (.inr (.inr (.inr (.inr (.inr hp))))), rfl⟩
    refine ret _ _ _ ⟨esl, elt, o', sp ++ ⟨x.sa, ks', eks'⟩ :: sq, pre ++ post, rfl, ?_, ?_, ?_, W.lo, ?_, ?_, ?_⟩ (fun p hp => ?_) (fun p hp => ?_) (fun q hq p hp => ?_) F' (fun p hp => N'' p ?_)
    · have := W.len
      simpa using this
    · intro y hy
      simp only [List.mem_append, List.mem_cons] at hy
      rcases hy with hy | rfl | hy
      · exact W.ok y (by simp [hy])
      · exact ⟨hk', by have := ok.2; show ks'.size ≤ n; omega⟩
      · exact W.ok y (by simp [hy])
    · rw [without_filt, hfk] at ho'
      exact ho'
    · rw [← hfk, ← tms_filt, W.tm]
    · refine List.Nodup.sublist ?_ nd
      simp only [List.map_append, List.map_cons]
      refine .cons_cons _ (.cons_cons _ (.cons_cons _ (.append (.refl _) (.append (.refl _) (.cons _ (.refl _))))))
    · simp only [List.length_append, List.length_cons] at hsm ⊢
      omega
    · obtain ⟨q, hq, e1⟩ := sub p hp
      rw [← e1]; exact hA1 q hq
    · obtain ⟨q, hq, e1⟩ := sub p hp
      rw [← e1]; exact hA2 q hq
    · obtain ⟨r, hr, e1⟩ := sub p hp
      rw [← e1]; exact hA3 q hq r hr
    · rw [← hits] at hp
      simp only [slotL_app, entL_app, slotL_cons, List.mem_cons, List.mem_append] at hp ⊢
      grind
  · have hv : valueAt (kvsE es) key = none := valueAt_out fun e he h => hk ⟨e, he, h⟩
    have N' : News h₀ L s.heap ((wx, instObj 823 wd) :: (wd, whlD w qB (.int 16 z0) (.ref sl) (.ref lt) (.ref ed) .none (gv)) :: (ed, o) :: (rest ++ (sl, listOf (itsE ss).toArray esl) :: (lt, listOf #[] elt) :: (slotL ss ++ entL es))) := fun p hp => N p (by
      simp only [List.mem_cons, List.mem_append] at hp ⊢
      grind)
    refine cancel_out_ct C N' W.dict W.lo hv (by omega) (by omega) ?_
    intro h' tk' F' N''
    have hT : (T.filter fun p => !(p.1 == key)) = T := by
      rw [← W.tm, tms_filt]
      congr 1
      exact List.filter_eq_self.mpr fun e he => by simpa using fun h => hk ⟨e, he, h⟩
    refine ret _ _ _ (hT.symm ▸ ⟨esl, elt, o, ss, es, W⟩) hA1 hA2 hA3 F' (fun p hp => N'' p ?_)
    simp only [List.mem_cons, List.mem_append] at hp ⊢
    grind
end
/-! put -/
section
variable {w : World} {mean : ExcName → Option Value} {mg mb : Str → Option Value} {dp un : Nat} {gd : Option (List Code)} {cn : Str} {cs : Scope} {a : Addr} {ccd : Value} {cl : List (Str × Addr)} {outer : List Env} {A₀ : Around} {base h₀ : Heap}
  {L : Addr} {m : Str → Option Value} {rest : List (Addr × Obj)} {s : Shared} {Q E : Value → Shared → Prop}
theorem kf_app {l : List Value} {k : Int} {t : Tok} : kf_ints l = true → kf_ints (l ++ [.int k t]) = true := by
  induction l with
  | nil => intro _; rfl
  | cons x r ih =>
    intro h
    cases x with
    | int i u => exact ih h
    | _ => cases h
theorem news_put {h₀ h : Heap} {L : Addr} {rest : List (Addr × Obj)} {e1 e2 e3 a b c : Addr × Obj} {sp sq : List Slt} {x : Slt} {es : List Ent} (N : News h₀ L h (e1 :: e2 :: e3 :: (rest ++ a :: b :: c :: (slotL (sp ++ x :: sq) ++ entL es)))) :
    News h₀ L h (e1 :: e2 :: e3 :: c :: a :: b :: (x.sa, listOf x.ks x.ep) :: (rest ++ (slotL sp ++ slotL sq ++ entL es))) := fun p hp => N p (by
  simp only [slotL_app, slotL_cons, List.mem_cons, List.mem_append] at hp ⊢
  grind)
theorem mem_off {rest : List (Addr × Obj)} {a b c : Addr × Obj} {sp sq : List Slt} {x : Slt} {es : List Ent} {d : Nat} (h : ∀ p ∈ rest ++ a :: b :: c :: (slotL (sp ++ x :: sq) ++ entL es), p.1 ≠ d) :
    @Ne Nat a.1 d ∧ @Ne Nat b.1 d ∧ @Ne Nat c.1 d ∧ @Ne Nat x.sa d := by
  refine ⟨h a (by simp), h b (by simp), h c (by simp), h (x.sa, listOf x.ks x.ep) ?_⟩
  simp [slotL_app, slotL_cons]
theorem tail_off {rest : List (Addr × Obj)} {a b c : Addr × Obj} {sp sq : List Slt} {x : Slt} {es : List Ent} {d : Nat} (h : ∀ p ∈ rest ++ a :: b :: c :: (slotL (sp ++ x :: sq) ++ entL es), p.1 ≠ d) :
    ∀ p ∈ rest ++ (slotL sp ++ slotL sq ++ entL es), p.1 ≠ d := fun p hp => h p (by
  simp only [slotL_app, slotL_cons, List.mem_cons, List.mem_append] at hp ⊢
  grind)
theorem nd_off {rest : List (Addr × Obj)} {sl lt ed : Addr} {sp sq : List Slt} {x : Slt} {es : List Ent} (nd : (sl :: lt :: ed :: ((sp ++ x :: sq).map (·.sa) ++ es.map (·.ta))).Nodup) :
    (@Ne Nat sl ed ∧ @Ne Nat lt ed ∧ @Ne Nat x.sa ed ∧ @Ne Nat sl x.sa ∧ @Ne Nat lt x.sa) ∧ ∀ p ∈ slotL sp ++ slotL sq ++ entL es, p.1 ≠ ed ∧ p.1 ≠ x.sa := by
  simp only [List.map_append, List.map_cons, List.nodup_cons, List.nodup_append, List.mem_cons, List.mem_append] at nd
  refine ⟨⟨?_, ?_, ?_, ?_, ?_⟩, fun p hp => ?_⟩
  · grind
  · grind
  · grind
  · grind
  · grind
  · simp only [List.mem_append] at hp
    rcases hp with (hp | hp) | hp
    · have := slotL_mem hp; grind
    · have := slotL_mem hp; grind
    · have := entL_mem hp; grind
def putL (sl lt ed : Addr) (esl elt : Nat) (o2 : Obj) (sp : List Slt) (x : Slt) (sq : List Slt) (es : List Ent) (e : Ent) (kt : Tok) : List (Addr × Obj) :=
  (sl, listOf (itsE (sp ++ ⟨x.sa, x.ks.push (.int e.key kt), x.ep + 1⟩ :: sq)).toArray esl) :: (lt, listOf #[] elt) :: (ed, o2) :: (slotL (sp ++ ⟨x.sa, x.ks.push (.int e.key kt), x.ep + 1⟩ :: sq) ++ entL (es ++ [e]))
theorem putL_news {h₀ h : Heap} {L : Addr} {rest : List (Addr × Obj)} {e1 e2 : Addr × Obj} {sl lt ed : Addr} {esl elt : Nat} {o2 : Obj} {sp sq : List Slt} {x : Slt} {es : List Ent} {e : Ent} {kt : Tok}
    (N : News h₀ L h (e1 :: e2 :: (sl, listOf (itsE (sp ++ x :: sq)).toArray esl) :: (e.ta, tupO e.time e.u1 e.ord e.u2) :: (ed, o2) :: (lt, listOf #[] elt) :: (x.sa, listOf (x.ks.push (.int e.key kt)) (x.ep + 1)) :: (rest ++ (slotL sp ++ slotL sq ++ entL es)))) :
    News h₀ L h (e1 :: e2 :: (rest ++ putL sl lt ed esl elt o2 sp x sq es e kt)) := fun p hp => N p (by
  have hits : itsE (sp ++ ⟨x.sa, x.ks.push (.int e.key kt), x.ep + 1⟩ :: sq) = itsE (sp ++ x :: sq) := by simp [itsE]
  unfold putL at hp
  rw [hits] at hp
  simp only [slotL_app, slotL_cons, entL_app, entL_cons, show entL [] = [] from rfl, List.mem_cons, List.mem_append, List.not_mem_nil, or_false] at hp ⊢
  grind)
theorem putL_off {sl lt ed : Addr} {esl elt : Nat} {o o2 : Obj} {sp sq : List Slt} {x : Slt} {es : List Ent} {e : Ent} {kt : Tok} {d : Addr}
    (h : ∀ p ∈ (sl, listOf (itsE (sp ++ x :: sq)).toArray esl) :: (lt, listOf #[] elt) :: (ed, o) :: (slotL (sp ++ x :: sq) ++ entL es), p.1 ≠ d) (k : e.ta ≠ d) : ∀ p ∈ putL sl lt ed esl elt o2 sp x sq es e kt, p.1 ≠ d := fun p hp => by
  unfold putL at hp
  simp only [slotL_app, slotL_cons, entL_app, entL_cons, show entL [] = [] from rfl, List.mem_cons, List.mem_append, List.not_mem_nil, or_false] at hp h
  rcases hp with rfl | rfl | rfl | (hp | rfl | hp) | hp | rfl
  · exact h (sl, listOf (itsE (sp ++ x :: sq)).toArray esl) (.inl rfl)
  · exact h (lt, listOf #[] elt) (.inr (.inl rfl))
  · exact h (ed, o) (.inr (.inr (.inl rfl)))
  · exact h p (.inr (.inr (.inr (.inl (.inl hp)))))
  · exact h (x.sa, listOf x.ks x.ep) (.inr (.inr (.inr (.inl (.inr (.inl rfl))))))
  · exact h p (.inr (.inr (.inr (.inl (.inr (.inr hp))))))
  · exact h p (.inr (.inr (.inr (.inr hp))))
  · exact k
theorem putL_is {w : World} {sl lt ed : Addr} {n : Nat} {T : List (Int × Int)} {WT : List (Addr × Obj)} {esl elt : Nat} {o o2 : Obj} {sp sq : List Slt} {x : Slt} {es : List Ent} {e : Ent} {kt : Tok} (W : WhT w sl lt ed n T WT esl elt o (sp ++ x :: sq) es)
    (hT : ∀ p ∈ T, p.1 ≠ e.key) (off : ∀ p ∈ WT, p.1 ≠ e.ta) (ho2 : o2.IsDictOf (intKind PySem.Challenge.rw_xw0342_01.row.prog w) (stored (kvsE es) e.key (.ref e.ta))) : WheelT w sl lt ed (n + 1) (T ++ [(e.key, e.time)]) (putL sl lt ed esl elt o2 sp x sq es e kt) := by
  have hv : valueAt (kvsE es) e.key = none := valueAt_out fun y hy => hT (y.key, y.time) (by rw [← W.tm]; exact List.mem_map.mpr ⟨y, hy, rfl⟩)
  have ok := W.ok x (by simp)
  have nd := W.nd
  have hsm := W.small
  have hWT := W.eq
  subst hWT
  refine ⟨esl, elt, o2, _, _, rfl, ?_, ?_, ?_, W.lo, ?_, ?_, ?_⟩
  · have := W.len
    simpa using this
  · intro y hy
    simp only [List.mem_append, List.mem_cons] at hy
    rcases hy with hy | rfl | hy
    · have := W.ok y (by simp [hy])
      exact ⟨this.1, by omega⟩
    · exact ⟨by rw [Array.toList_push]; exact kf_app ok.1, by have := ok.2; rw [Array.size_push]; omega⟩
    · have := W.ok y (by simp [hy])
      exact ⟨this.1, by omega⟩
  · rw [stored_absent hv] at ho2
    rw [show kvsE (es ++ [e]) = kvsE es ++ [(e.key, .ref e.ta)] from by simp [kvsE]]
    exact ho2
  · rw [← W.tm]
    simp [tms]
  · have key : e.ta ∉ sl :: lt :: ed :: ((sp ++ x :: sq).map (·.sa) ++ es.map (·.ta)) := by
      intro h
      simp only [List.mem_cons, List.mem_append, List.mem_map] at h
      rcases h with h | h | h | ⟨y, hy, h⟩ | ⟨y, hy, h⟩
      · exact off (sl, listOf (itsE (sp ++ x :: sq)).toArray esl) (by simp) h.symm
      · exact off (lt, listOf #[] elt) (by simp) h.symm
      · exact off (ed, o) (by simp) h.symm
      · refine off (y.sa, listOf y.ks y.ep) ?_ h
        have : (y.sa, listOf y.ks y.ep) ∈ slotL (sp ++ x :: sq) := List.mem_map.mpr ⟨y, by simpa using hy, rfl⟩
        simp [this]
      · refine off (y.ta, tupO y.time y.u1 y.ord y.u2) ?_ h
        have : (y.ta, tupO y.time y.u1 y.ord y.u2) ∈ entL es := List.mem_map.mpr ⟨y, hy, rfl⟩
        simp [this]
    have e1 : (sp ++ ⟨x.sa, x.ks.push (.int e.key kt), x.ep + 1⟩ :: sq).map (·.sa) = (sp ++ x :: sq).map (·.sa) := by simp
    rw [e1, show (es ++ [e]).map (·.ta) = es.map (·.ta) ++ [e.ta] from by simp, ← List.append_assoc]
    rw [← List.cons_append, ← List.cons_append, ← List.cons_append]
    refine List.nodup_append.mpr ⟨nd, by simp, fun y hy z hz => ?_⟩
    have : z = e.ta := by simpa using hz
    subst this
    exact fun h => key (h ▸ hy)
  · rw [List.length_append, List.length_singleton]
    omega
local macro_rules | `(tactic| walk_at "call ref") => `(tactic| (k_here; (with_reducible show wpAny _ _ (call (Value.ref 789) _) _ _ _); k_dflt (refine' listof_ct (elt := 0) (by walk_at "zC") (by walk_at "zN") (by assumption) (by ktr_room) (by ktr_units) ?_; k_whole); intro  h' tklis F' N'; (try dsimp only); (try k_sweep)))
local macro_rules | `(tactic| walk_at "call builtin:list.append") => `(tactic| (k_here; (with_reducible show wpAny _ _ (call (Value.builtin _) [Value.ref _, _]) _ _ _); k_dflt (refine' append_K ?k1 ?k2 ?k3 ?_ ?z; (case k1 => k_asm); (case k2 => k_asm); (case k3 => k_upd); (case z => (rw [sizeLine_eq]; omega)); k_whole); intro h' F' N'; (try k_sweep)))
set_option maxHeartbeats 0 in
theorem put_ct {wx wd sl lt ed : Addr} {qB : Nat → Tok} {z0 : Tok}  {n : Nat} {T : List (Int × Int)} {WT : List (Addr × Obj)} {key time g : Int} {tk ut gt : Tok} (C : Cx w mean mg mb cs outer A₀ base h₀ L m s.heap)
    (N : News h₀ L s.heap ((wx, instObj 823 wd) :: (wd, whlD w qB (.int 16 z0) (.ref sl) (.ref lt) (.ref ed) .none (.int g gt)) :: (rest ++ WT))) (hW : WheelT w sl lt ed n T WT) (hn : n ≤ 1000) (hA1 : ∀ p ∈ WT, p.1 ≠ wx) (hA2 : ∀ p ∈ WT, p.1 ≠ wd) (hA3 : ∀ q ∈ rest, ∀ p ∈ WT, p.1 ≠ q.1) (hR : ∀ q ∈ rest, q.1 ≠ wd) (hwd : @Ne Nat wx wd) (hd : dp + 20 < recursionLimit) (hu : un + 200 < cLine)
    (ret : ∀ (WT' : List (Addr × Obj)) (g' : Int) (gt' : Tok) (h' : Heap) (tk' : Nat), (WheelT w sl lt ed (n + 1) ((T.filter fun p => !(p.1 == key)) ++ [(key, time)]) WT') → (∀ p ∈ WT', p.1 ≠ wx) → (∀ p ∈ WT', p.1 ≠ wd) → (∀ q ∈ rest, ∀ p ∈ WT', p.1 ≠ q.1) → Fr h₀ L h' m → News h₀ L h' ((wx, instObj 823 wd) :: (wd, whlD w qB (.int 16 z0) (.ref sl) (.ref lt) (.ref ed) .none (.int g' gt')) :: (rest ++ WT')) → Q .none { s with heap := h', toks := tk' }) :
    wpAny (model PySem.Challenge.rw_xw0342_01.row.prog w) (ktrTop dp un gd cn cs L a ccd cl outer) (call (.ref 782) [.ref wx, .int key tk, .int time ut]) Q E s := by
  obtain ⟨B, F, X, T0, hk⟩ := C
  refine wpAny_call ?_
  k_dflt cell_enter
  (k_steps; repeat' (unfold Stopped; (first
    | ((with_reducible show wpAny _ _ (call (Value.ref 796) _) _ _ _); k_dflt (refine' cancel_ct (by walk_at "zC") (by walk_at "zN") (by assumption) (by omega) (by walk_at "zK") (by walk_at "zK") (by walk_at "zA") (by ktr_room) (by ktr_units) ?_; k_whole); intro WTc h' tkc hWc hA1W hA2W hA3W F' N'; walk_at "zE"; (try k_sweep))); k_steps))
  (try dsimp only)
  clear hW hA1 hA2 hA3
  (rename (WheelT _ _ _ _ _ _ _) => hW2)
  (rename (List (Addr × Obj)) => WTc)
  have b1 : ∀ p ∈ WTc, p.1 ≠ wx := by assumption
  have b2 : ∀ p ∈ WTc, p.1 ≠ wd := by assumption
  have b3 : ∀ q ∈ rest, ∀ p ∈ WTc, p.1 ≠ q.1 := by assumption
  (rename (AllLt _ _) => l0)
  have l1 := lt_tail2 l0
  (rename (News _ _ _ _) => N2)
  obtain ⟨esl, elt, o, ss, es, W⟩ := hW2
  have hWT := W.eq
  subst hWT
  have hf := fm16 time
  obtain ⟨sp, x, sq, rfl, hx⟩ := at_split (l := ss) (i := (time.fmod 16).toNat) (by have := W.len; omega)
  have hi := its_at (b := sq) (x := x) hx
  have nd := W.nd
  have ok := W.ok x (by simp)
  have hsm := W.small
  have hks := ok.2
  have l2 := allLt_ne l1
  obtain ⟨c1, c2, c3, c4⟩ := mem_off l2
  obtain ⟨d1, d2, d3, d4⟩ := mem_off (rest := []) b1
  obtain ⟨e1, e2, e3, e4⟩ := mem_off (rest := []) b2
  obtain ⟨⟨f1, f2, f3, f4, f5⟩, f6⟩ := nd_off (rest := rest) nd
  have t1 : ∀ p ∈ rest ++ (slotL sp ++ slotL sq ++ entL es), p.1 ≠ ed := fun p hp => by
    rcases List.mem_append.mp hp with hp | hp
    · exact fun h => b3 p hp (ed, o) (by simp) h.symm
    · exact (f6 p hp).1
  have t2 : ∀ p ∈ rest ++ (slotL sp ++ slotL sq ++ entL es), p.1 ≠ x.sa := fun p hp => by
    rcases List.mem_append.mp hp with hp | hp
    · exact fun h => b3 p hp (x.sa, listOf x.ks x.ep) (by simp [slotL_app, slotL_cons]) h.symm
    · exact (f6 p hp).2
  have N3 := news_put N2
  clear N2
  dsimp only at c1 c2 c3 c4 d1 d2 d3 d4 e1 e2 e3 e4
  refine' kda_set (knd := intKind _ _) ?F ?N ?U W.dict (intKind_is _ _ _ _) ?z ?_
  (case F => k_asm)
  (case N => k_asm)
  (case U => k_updF)
  (case z => (rw [sizeLine_eq]; simp only [kvsE, List.length_map]; omega))
  intro h' o2 F' N' ho2
  (try dsimp only at N')
  (try dsimp only)
  k_sweep
  (k_steps; repeat' (unfold Stopped; (first
    | ((with_reducible show wpAny _ _ (call (Value.ref 796) _) _ _ _); k_dflt (refine' cancel_ct (by walk_at "zC") (by walk_at "zN") (by assumption) (by omega) (by walk_at "zK") (by walk_at "zK") (by walk_at "zA") (by ktr_room) (by ktr_units) ?_; k_whole); intro WTc h' tkc hWc hA1W hA2W hA3W F' N'; walk_at "zE"; (try k_sweep))); k_steps))
  (rename (News h₀ L _ _) => N4)
  refine ret _ _ _ _ _ (putL_is (e := ⟨key, _, time, ut, g + 1, _⟩) W (fun p hp => by simpa using (List.mem_filter.mp hp).2) (fun p hp => l2 p (List.mem_append_right _ hp)) ho2) (putL_off b1 ?_) (putL_off b2 ?_) (fun q hq => putL_off (b3 q hq) ?_) (by k_asm) (putL_news N4)
  · k_ne
  · k_ne
  · exact fun h => l2 q (List.mem_append_left _ hq) h.symm
end
/-! timeof -/
section
variable {w : World} {mean : ExcName → Option Value} {mg mb : Str → Option Value} {dp un : Nat} {gd : Option (List Code)} {cn : Str} {cs : Scope} {a : Addr} {ccd : Value} {cl : List (Str × Addr)} {outer : List Env} {A₀ : Around} {base h₀ : Heap}
  {L : Addr} {m : Str → Option Value} {rest : List (Addr × Obj)} {s : Shared} {Q E : Value → Shared → Prop}
inductive OV : Option Int → Value → Prop
  | none : OV none .none
  | int {i : Int} {t : Tok} : OV (some i) (.int i t)
noncomputable def atT : List (Int × Int) → Int → Option Int
  | [], _ => none
  | p :: r, k => if p.1 = k then some p.2 else atT r k
theorem atT_in {pre post : List Ent} {e : Ent} (h : ∀ x ∈ pre, x.key ≠ e.key) : atT (tms (pre ++ e :: post)) e.key = some e.time := by
  induction pre with
  | nil => exact if_pos rfl
  | cons x r ih => exact (if_neg (h x (.head _))).trans (ih fun y hy => h y (.tail _ hy))
theorem atT_out {es : List Ent} {k : Int} (h : ∀ x ∈ es, x.key ≠ k) : atT (tms es) k = none := by
  induction es with
  | nil => rfl
  | cons x r ih => exact (if_neg (h x (.head _))).trans (ih fun y hy => h y (.tail _ hy))
theorem WheelT.mono {w : World} {sl lt ed : Addr} {n n' : Nat} {T : List (Int × Int)} {WT : List (Addr × Obj)} (W : WheelT w sl lt ed n T WT) (h : n ≤ n') : WheelT w sl lt ed n' T WT := by
  obtain ⟨a, b, o, ss, es, W⟩ := W
  exact ⟨a, b, o, ss, es, W.eq, W.len, fun x hx => ⟨(W.ok x hx).1, Nat.le_trans (W.ok x hx).2 h⟩, W.dict, W.lo, W.tm, W.nd, Nat.le_trans W.small h⟩
set_option maxHeartbeats 0 in
theorem time_ct {wx wd sl lt ed : Addr} {qB : Nat → Tok} {z0 : Tok} {gv : Value} {n : Nat} {T : List (Int × Int)} {WT : List (Addr × Obj)} {key : Int} {tk : Tok} (C : Cx w mean mg mb cs outer A₀ base h₀ L m s.heap)
    (N : News h₀ L s.heap ((wx, instObj 823 wd) :: (wd, whlD w qB (.int 16 z0) (.ref sl) (.ref lt) (.ref ed) .none (gv)) :: (rest ++ WT))) (hW : WheelT w sl lt ed n T WT) (hn : n ≤ 1000) (hd : dp + 12 < recursionLimit) (hu : un + 120 < cLine)
    (ret : ∀ (v : Value) (h' : Heap) (tk' : Nat), (OV (atT T key) v) → Fr h₀ L h' m → News h₀ L h' ((wx, instObj 823 wd) :: (wd, whlD w qB (.int 16 z0) (.ref sl) (.ref lt) (.ref ed) .none (gv)) :: (rest ++ WT)) → Q v { s with heap := h', toks := tk' }) :
    wpAny (model PySem.Challenge.rw_xw0342_01.row.prog w) (ktrTop dp un gd cn cs L a ccd cl outer) (call (.ref 803) [.ref wx, .int key tk]) Q E s := by
  obtain ⟨esl, elt, o, ss, es, W⟩ := hW
  have hWT := W.eq
  subst hWT
  by_cases hk : ∃ e ∈ es, e.key = key
  · obtain ⟨e, he, rfl⟩ := hk
    obtain ⟨pre, post, rfl⟩ := List.append_of_mem he
    have N' : News h₀ L s.heap ((wx, instObj 823 wd) :: (wd, whlD w qB (.int 16 z0) (.ref sl) (.ref lt) (.ref ed) .none (gv)) :: (ed, o) :: (e.ta, tupO e.time e.u1 e.ord e.u2) :: (rest ++ (sl, listOf (itsE ss).toArray esl) :: (lt, listOf #[] elt) :: (slotL ss ++ (entL pre ++ entL post)))) := fun p hp => N p (by
      simp only [entL_app, entL_cons, List.mem_cons, List.mem_append] at hp ⊢
      grind)
    refine time_in_ct C N' W.dict W.lo (valueAt_in W.dict) (by omega) (by omega) ?_
    intro h' tk' F' N''
    have hv : OV (atT T e.key) (.int e.time e.u1) := by
      rw [← W.tm, atT_in fun x hx => ne_keys (keys_nd W.dict) x (List.mem_append_left _ hx)]
      exact .int
    refine ret _ _ _ hv F' (fun p hp => N'' p ?_)
    simp only [entL_app, entL_cons, List.mem_cons, List.mem_append] at hp ⊢
    grind
  · have hv : valueAt (kvsE es) key = none := valueAt_out fun e he h => hk ⟨e, he, h⟩
    have N' : News h₀ L s.heap ((wx, instObj 823 wd) :: (wd, whlD w qB (.int 16 z0) (.ref sl) (.ref lt) (.ref ed) .none (gv)) :: (ed, o) :: (rest ++ (sl, listOf (itsE ss).toArray esl) :: (lt, listOf #[] elt) :: (slotL ss ++ entL es))) := fun p hp => N p (by
      simp only [List.mem_cons, List.mem_append] at hp ⊢
      grind)
    refine time_out_ct C N' W.dict W.lo hv (by omega) (by omega) ?_
    intro h' tk' F' N''
    refine ret _ _ _ (by rw [← W.tm, atT_out fun e he h => hk ⟨e, he, h⟩]; exact .none) F' (fun p hp => N'' p ?_)
    simp only [List.mem_cons, List.mem_append] at hp ⊢
    grind
end
/-! setres -/
section
variable {w : World} {mean : ExcName → Option Value} {mg mb : Str → Option Value} {dp un : Nat} {gd : Option (List Code)} {cn : Str} {cs : Scope} {a : Addr} {ccd : Value} {cl : List (Str × Addr)} {outer : List Env} {A₀ : Around} {base h₀ : Heap}
  {L : Addr} {m : Str → Option Value} {rest : List (Addr × Obj)} {s : Shared} {Q E : Value → Shared → Prop}
set_option maxHeartbeats 0 in
theorem set_resend_ct {wx wd sl lt ed : Addr} {qB : Nat → Tok} {z0 : Tok} {g : Int} {gt : Tok} {n : Nat} {T : List (Int × Int)} {WT : List (Addr × Obj)} {tx td : Addr} {bB : Nat → Tok} {lim loc rmt st cng ack err pr una ngl : Value} {sx sd qx : Addr} {iB : Nat → Tok} {ms2 pe fa fs : Value} {ua nx gr : Int} {w1 w2 w4 w5 w6 : Tok} {sp : Bool} {cx cd : Addr} {jB : Nat → Tok} {mt te ta : Value} {tr : Int} {u2 : Tok} {ex xd : Addr} {kB : Nat → Tok} {f lo mo m8 s4 ms : Int} {t0 t1 t2 t3 t4 t5 : Tok} {now : Int} {tn : Tok} (C : Cx w mean mg mb cs outer A₀ base h₀ L m s.heap)
    (N : News h₀ L s.heap ((wx, instObj 823 wd) :: (wd, whlD w qB (.int 16 z0) (.ref sl) (.ref lt) (.ref ed) .none (.int g gt)) :: (((tx, instObj 887 td) :: (td, tcbD w bB lim loc rmt (st) (.ref sx) .none (.ref cx) cng ack (.ref wx) err (pr) una ngl) :: (sx, instObj 666 sd) :: (sd, sndD w iB (.int 255 w1) (.int 256 w2) ms2 (.int ua w4) (.int nx w5) (.int gr w6) pe (.ref qx) (.bool sp) fa fs) :: (cx, instObj 321 cd) :: (cd, clkD w jB (.ref ex) mt (.int tr u2) (te) (ta)) :: (ex, instObj 377 xd) :: (xd, estD w kB (.int f t0) (.int lo t1) (.int mo t2) (.int m8 t3) (.int s4 t4) (.int ms t5)) :: rest) ++ WT))) (hW : WheelT w sl lt ed n T WT) (hn : n ≤ 900) (hA1 : ∀ p ∈ WT, p.1 ≠ wx) (hA2 : ∀ p ∈ WT, p.1 ≠ wd) (hA3 : ∀ q ∈ (tx, instObj 887 td) :: (td, tcbD w bB lim loc rmt (st) (.ref sx) .none (.ref cx) cng ack (.ref wx) err (pr) una ngl) :: (sx, instObj 666 sd) :: (sd, sndD w iB (.int 255 w1) (.int 256 w2) ms2 (.int ua w4) (.int nx w5) (.int gr w6) pe (.ref qx) (.bool sp) fa fs) :: (cx, instObj 321 cd) :: (cd, clkD w jB (.ref ex) mt (.int tr u2) (te) (ta)) :: (ex, instObj 377 xd) :: (xd, estD w kB (.int f t0) (.int lo t1) (.int mo t2) (.int m8 t3) (.int s4 t4) (.int ms t5)) :: rest, ∀ p ∈ WT, p.1 ≠ q.1) (h0 : 0 ≤ tr) (h1 : tr < 10) (hR : ∀ q ∈ rest, q.1 ≠ wd) (hD : @Ne Nat wx wd ∧ @Ne Nat tx wd ∧ @Ne Nat td wd ∧ @Ne Nat sx wd ∧ @Ne Nat sd wd ∧ @Ne Nat cx wd ∧ @Ne Nat cd wd ∧ @Ne Nat ex wd ∧ @Ne Nat xd wd) (hd : dp + 40 < recursionLimit) (hu : un + 500 < cLine)
    (ret : ∀ (WT' : List (Addr × Obj)) (g' : Int) (gt' : Tok) (h' : Heap) (tk' : Nat), WheelT w sl lt ed (n + 1) (if 0 < (nx - ua).fmod 256 then (T.filter fun p => !(p.1 == 1)) ++ [(1, now + boundZ lo mo (2 ^ (min tr 7).toNat * boundZ lo mo (plainZ f m8 s4 ms)))] else T.filter fun p => !(p.1 == 1)) WT' → (∀ p ∈ WT', p.1 ≠ wx) → (∀ p ∈ WT', p.1 ≠ wd) → (∀ q ∈ (tx, instObj 887 td) :: (td, tcbD w bB lim loc rmt (st) (.ref sx) .none (.ref cx) cng ack (.ref wx) err (pr) una ngl) :: (sx, instObj 666 sd) :: (sd, sndD w iB (.int 255 w1) (.int 256 w2) ms2 (.int ua w4) (.int nx w5) (.int gr w6) pe (.ref qx) (.bool sp) fa fs) :: (cx, instObj 321 cd) :: (cd, clkD w jB (.ref ex) mt (.int tr u2) (te) (ta)) :: (ex, instObj 377 xd) :: (xd, estD w kB (.int f t0) (.int lo t1) (.int mo t2) (.int m8 t3) (.int s4 t4) (.int ms t5)) :: rest, ∀ p ∈ WT', p.1 ≠ q.1) → Fr h₀ L h' m → News h₀ L h' ((wx, instObj 823 wd) :: (wd, whlD w qB (.int 16 z0) (.ref sl) (.ref lt) (.ref ed) .none (.int g' gt')) :: (((tx, instObj 887 td) :: (td, tcbD w bB lim loc rmt (st) (.ref sx) .none (.ref cx) cng ack (.ref wx) err (pr) una ngl) :: (sx, instObj 666 sd) :: (sd, sndD w iB (.int 255 w1) (.int 256 w2) ms2 (.int ua w4) (.int nx w5) (.int gr w6) pe (.ref qx) (.bool sp) fa fs) :: (cx, instObj 321 cd) :: (cd, clkD w jB (.ref ex) mt (.int tr u2) (te) (ta)) :: (ex, instObj 377 xd) :: (xd, estD w kB (.int f t0) (.int lo t1) (.int mo t2) (.int m8 t3) (.int s4 t4) (.int ms t5)) :: rest) ++ WT')) → Q .none { s with heap := h', toks := tk' }) :
    wpAny (model PySem.Challenge.rw_xw0342_01.row.prog w) (ktrTop dp un gd cn cs L a ccd cl outer) (call (.ref 947) [.ref tx, .int now tn]) Q E s := by
  obtain ⟨B, F, X, T0, hk⟩ := C
  replace hA3 := ap_mk hA3
  dsimp only [List.cons_append] at N
  obtain ⟨d0, d1, d2, d3, d4, d5, d6, d7, d8⟩ := hD
  refine wpAny_call ?_
  k_dflt cell_enter
  (k_steps; repeat' (unfold Stopped; (first
    | ((with_reducible show wpAny _ _ (call (Value.ref 529) _) _ _ _); k_dflt (refine' flight_ct (by walk_at "zC") (by walk_at "zN") (by ktr_room) (by ktr_units) ?_; k_whole); intro zF tF h' tkF eF F' N'; (try dsimp only); (try k_sweep))
    | ((with_reducible show wpAny _ _ (call (Value.ref 318) _) _ _ _); k_dflt (refine' deadline_ct (by walk_at "zC") (by walk_at "zN") (by walk_at "zO") (by walk_at "zO") (by ktr_room) (by ktr_units) ?_; k_whole); intro zD tD h' tkD eD F' N'; (try dsimp only); (try k_sweep))
    | ((with_reducible show wpAny _ _ (call (Value.ref 782) _) _ _ _); k_dflt (refine' put_ct (by walk_at "zC") (by walk_at "zN") (by assumption) (by omega) (by walk_at "zK") (by walk_at "zK") (by walk_at "zA") (by walk_at "zK") (by k_ne) (by ktr_room) (by ktr_units) ?_; k_whole); intro WTp gp gtp h' tkp hWp hA1W hA2W hA3W F' N'; walk_at "zE"; (try k_sweep))
    | ((with_reducible show wpAny _ _ (call (Value.ref 796) _) _ _ _); k_dflt (refine' cancel_ct (by walk_at "zC") (by walk_at "zN") (by assumption) (by omega) (by walk_at "zK") (by walk_at "zK") (by walk_at "zA") (by ktr_room) (by ktr_units) ?_; k_whole); intro WTc h' tkc hWc hA1W hA2W hA3W F' N'; walk_at "zE"; (try k_sweep))); k_steps))
  all_goals (rename ((_ : Int) = (nx - ua).fmod 256) => eF1)
  all_goals subst eF1
  · (rename ((_ : Int) = now + boundZ lo mo _) => eD1)
    subst eD1
    refine ret _ _ _ _ _ ?_ (by assumption) (by assumption) ?_ (by k_asm) (news_w (by assumption) (by (repeat (first | (with_reducible refine Sb.capp ?_) | ((with_reducible refine Sb.cons ?m9 ?_); (case m9 => k_mem)))); (repeat apply Sb.skip); exact Sb.refl))
    · rw [if_pos (by assumption)]
      assumption
    · walk_at "zA"
  · refine ret _ _ _ _ _ ?_ (by assumption) (by assumption) ?_ (by k_asm) (news_w (by assumption) (by (repeat (first | (with_reducible refine Sb.capp ?_) | ((with_reducible refine Sb.cons ?m9 ?_); (case m9 => k_mem)))); (repeat apply Sb.skip); exact Sb.refl))
    · rw [if_neg (by assumption)]
      exact WheelT.mono (by assumption) (by omega)
    · walk_at "zA"
end
/-! keep -/
section
variable {w : World} {mean : ExcName → Option Value} {mg mb : Str → Option Value} {dp un : Nat} {gd : Option (List Code)} {cn : Str} {cs : Scope} {a : Addr} {ccd : Value} {cl : List (Str × Addr)} {outer : List Env} {A₀ : Around} {base h₀ : Heap}
  {L : Addr} {m : Str → Option Value} {rest : List (Addr × Obj)} {s : Shared} {Q E : Value → Shared → Prop}
set_option maxHeartbeats 0 in
theorem keep_ct {wx wd sl lt ed : Addr} {qB : Nat → Tok} {z0 : Tok} {g : Int} {gt : Tok} {n : Nat} {T : List (Int × Int)} {WT : List (Addr × Obj)} {tx td : Addr} {bB : Nat → Tok} {lim loc rmt cng ack err pr una ngl : Value} {stt : Tok} {sx sd qx : Addr} {iB : Nat → Tok} {ms2 pe fa fs : Value} {ua nx gr : Int} {w1 w2 w4 w5 w6 : Tok} {sp : Bool} {cx cd : Addr} {jB : Nat → Tok} {mt te ta : Value} {tr : Int} {u2 : Tok} {ex xd : Addr} {kB : Nat → Tok} {f lo mo m8 s4 ms : Int} {t0 t1 t2 t3 t4 t5 : Tok} {now : Int} {tn : Tok} (C : Cx w mean mg mb cs outer A₀ base h₀ L m s.heap)
    (N : News h₀ L s.heap ((wx, instObj 823 wd) :: (wd, whlD w qB (.int 16 z0) (.ref sl) (.ref lt) (.ref ed) .none (.int g gt)) :: (((tx, instObj 887 td) :: (td, tcbD w bB lim loc rmt (.str (Str.ofString "syn sent") stt) (.ref sx) .none (.ref cx) cng ack (.ref wx) err (pr) una ngl) :: (sx, instObj 666 sd) :: (sd, sndD w iB (.int 255 w1) (.int 256 w2) ms2 (.int ua w4) (.int nx w5) (.int gr w6) pe (.ref qx) (.bool sp) fa fs) :: (cx, instObj 321 cd) :: (cd, clkD w jB (.ref ex) mt (.int tr u2) (te) (ta)) :: (ex, instObj 377 xd) :: (xd, estD w kB (.int f t0) (.int lo t1) (.int mo t2) (.int m8 t3) (.int s4 t4) (.int ms t5)) :: rest) ++ WT))) (hW : WheelT w sl lt ed n T WT) (hn : n ≤ 900) (hA1 : ∀ p ∈ WT, p.1 ≠ wx) (hA2 : ∀ p ∈ WT, p.1 ≠ wd) (hA3 : ∀ q ∈ (tx, instObj 887 td) :: (td, tcbD w bB lim loc rmt (.str (Str.ofString "syn sent") stt) (.ref sx) .none (.ref cx) cng ack (.ref wx) err (pr) una ngl) :: (sx, instObj 666 sd) :: (sd, sndD w iB (.int 255 w1) (.int 256 w2) ms2 (.int ua w4) (.int nx w5) (.int gr w6) pe (.ref qx) (.bool sp) fa fs) :: (cx, instObj 321 cd) :: (cd, clkD w jB (.ref ex) mt (.int tr u2) (te) (ta)) :: (ex, instObj 377 xd) :: (xd, estD w kB (.int f t0) (.int lo t1) (.int mo t2) (.int m8 t3) (.int s4 t4) (.int ms t5)) :: rest, ∀ p ∈ WT, p.1 ≠ q.1) (h0 : 0 ≤ tr) (h1 : tr < 10) (hR : ∀ q ∈ rest, q.1 ≠ wd) (hR2 : ∀ q ∈ rest, q.1 ≠ td) (hD : @Ne Nat wx wd ∧ @Ne Nat tx wd ∧ @Ne Nat td wd ∧ @Ne Nat sx wd ∧ @Ne Nat sd wd ∧ @Ne Nat cx wd ∧ @Ne Nat cd wd ∧ @Ne Nat ex wd ∧ @Ne Nat xd wd) (hD2 : @Ne Nat wx td ∧ @Ne Nat wd td ∧ @Ne Nat tx td ∧ @Ne Nat sx td ∧ @Ne Nat sd td ∧ @Ne Nat cx td ∧ @Ne Nat cd td ∧ @Ne Nat ex td ∧ @Ne Nat xd td) (hT : atT T 1 = none) (hF : 0 < (nx - ua).fmod 256) (hd : dp + 50 < recursionLimit) (hu : un + 700 < cLine)
    (ret : ∀ (WT' : List (Addr × Obj)) (g' : Int) (gt' prt : Tok) (h' : Heap) (tk' : Nat), WheelT w sl lt ed (n + 1) (((T.filter fun (p : Int × Int) => !(p.1 == 1)) ++ [(1, now + boundZ lo mo (2 ^ (min tr 7).toNat * boundZ lo mo (plainZ f m8 s4 ms)))]).filter fun (p : Int × Int) => !(p.1 == 2)) WT' → (∀ p ∈ WT', p.1 ≠ wx) → (∀ p ∈ WT', p.1 ≠ wd) → (∀ q ∈ (tx, instObj 887 td) :: (td, tcbD w bB lim loc rmt (.str (Str.ofString "syn sent") stt) (.ref sx) .none (.ref cx) cng ack (.ref wx) err (pr) una ngl) :: (sx, instObj 666 sd) :: (sd, sndD w iB (.int 255 w1) (.int 256 w2) ms2 (.int ua w4) (.int nx w5) (.int gr w6) pe (.ref qx) (.bool sp) fa fs) :: (cx, instObj 321 cd) :: (cd, clkD w jB (.ref ex) mt (.int tr u2) (te) (ta)) :: (ex, instObj 377 xd) :: (xd, estD w kB (.int f t0) (.int lo t1) (.int mo t2) (.int m8 t3) (.int s4 t4) (.int ms t5)) :: rest, ∀ p ∈ WT', p.1 ≠ q.1) → Fr h₀ L h' m → News h₀ L h' ((wx, instObj 823 wd) :: (wd, whlD w qB (.int 16 z0) (.ref sl) (.ref lt) (.ref ed) .none (.int g' gt')) :: (((tx, instObj 887 td) :: (td, tcbD w bB lim loc rmt (.str (Str.ofString "syn sent") stt) (.ref sx) .none (.ref cx) cng ack (.ref wx) err (.int 0 prt) una ngl) :: (sx, instObj 666 sd) :: (sd, sndD w iB (.int 255 w1) (.int 256 w2) ms2 (.int ua w4) (.int nx w5) (.int gr w6) pe (.ref qx) (.bool sp) fa fs) :: (cx, instObj 321 cd) :: (cd, clkD w jB (.ref ex) mt (.int tr u2) (te) (ta)) :: (ex, instObj 377 xd) :: (xd, estD w kB (.int f t0) (.int lo t1) (.int mo t2) (.int m8 t3) (.int s4 t4) (.int ms t5)) :: rest) ++ WT')) → Q .none { s with heap := h', toks := tk' }) :
    wpAny (model PySem.Challenge.rw_xw0342_01.row.prog w) (ktrTop dp un gd cn cs L a ccd cl outer) (call (.ref 954) [.ref tx, .int now tn]) Q E s := by
  obtain ⟨B, F, X, T0, hk⟩ := C
  replace hA3 := ap_mk hA3
  dsimp only [List.cons_append] at N
  obtain ⟨d0, d1, d2, d3, d4, d5, d6, d7, d8⟩ := hD
  obtain ⟨v0, v1, v2, v3, v4, v5, v6, v7, v8⟩ := hD2
  refine wpAny_call ?_
  k_dflt cell_enter
  (k_steps; repeat' (unfold Stopped; (first
    | ((with_reducible show wpAny _ _ (call (Value.ref 529) _) _ _ _); k_dflt (refine' flight_ct (by walk_at "zC") (by walk_at "zN") (by ktr_room) (by ktr_units) ?_; k_whole); intro zF tF h' tkF eF F' N'; (try dsimp only); (try k_sweep))
    | ((with_reducible show wpAny _ _ (call (Value.ref 796) _) _ _ _); k_dflt (refine' cancel_ct (by walk_at "zC") (by walk_at "zN") (by assumption) (by omega) (by walk_at "zK") (by walk_at "zK") (by walk_at "zA") (by ktr_room) (by ktr_units) ?_; k_whole); intro WTc h' tkc hWc hA1W hA2W hA3W F' N'; walk_at "zE"; (try k_sweep))
    | ((with_reducible show wpAny _ _ (call (Value.ref 803) _) _ _ _); k_dflt (refine' time_ct (by walk_at "zC") (by walk_at "zN") (by assumption) (by omega) (by ktr_room) (by ktr_units) ?_; k_whole); intro vO h' tkO eO F' N'; (try dsimp only [List.cons_append, List.nil_append] at N'); (try dsimp only); (try k_sweep))
    | ((with_reducible show wpAny _ _ (call (Value.ref 318) _) _ _ _); k_dflt (refine' deadline_ct (by walk_at "zC") (by walk_at "zN") (by walk_at "zO") (by walk_at "zO") (by ktr_room) (by ktr_units) ?_; k_whole); intro zD tD h' tkD eD F' N'; (try dsimp only); (try k_sweep))
    | ((with_reducible show wpAny _ _ (call (Value.ref 782) _) _ _ _); k_dflt (refine' put_ct (by walk_at "zC") (by walk_at "zN") (by assumption) (by omega) (by walk_at "zK") (by walk_at "zK") (by walk_at "zA") (by walk_at "zK") (by k_ne) (by ktr_room) (by ktr_units) ?_; k_whole); intro WTp gp gtp h' tkp hWp hA1W hA2W hA3W F' N'; walk_at "zE"; (try k_sweep))); k_steps))
  all_goals (rename ((_ : Int) = (nx - ua).fmod 256) => eF1)
  · exfalso; omega
  · (rename OV _ _ => ov)
    rw [hT] at ov
    cases ov
    (k_steps; repeat' (unfold Stopped; (first
    | ((with_reducible show wpAny _ _ (call (Value.ref 529) _) _ _ _); k_dflt (refine' flight_ct (by walk_at "zC") (by walk_at "zN") (by ktr_room) (by ktr_units) ?_; k_whole); intro zF tF h' tkF eF F' N'; (try dsimp only); (try k_sweep))
    | ((with_reducible show wpAny _ _ (call (Value.ref 796) _) _ _ _); k_dflt (refine' cancel_ct (by walk_at "zC") (by walk_at "zN") (by assumption) (by omega) (by walk_at "zK") (by walk_at "zK") (by walk_at "zA") (by ktr_room) (by ktr_units) ?_; k_whole); intro WTc h' tkc hWc hA1W hA2W hA3W F' N'; walk_at "zE"; (try k_sweep))
    | ((with_reducible show wpAny _ _ (call (Value.ref 803) _) _ _ _); k_dflt (refine' time_ct (by walk_at "zC") (by walk_at "zN") (by assumption) (by omega) (by ktr_room) (by ktr_units) ?_; k_whole); intro vO h' tkO eO F' N'; (try dsimp only [List.cons_append, List.nil_append] at N'); (try dsimp only); (try k_sweep))
    | ((with_reducible show wpAny _ _ (call (Value.ref 318) _) _ _ _); k_dflt (refine' deadline_ct (by walk_at "zC") (by walk_at "zN") (by walk_at "zO") (by walk_at "zO") (by ktr_room) (by ktr_units) ?_; k_whole); intro zD tD h' tkD eD F' N'; (try dsimp only); (try k_sweep))
    | ((with_reducible show wpAny _ _ (call (Value.ref 782) _) _ _ _); k_dflt (refine' put_ct (by walk_at "zC") (by walk_at "zN") (by assumption) (by omega) (by walk_at "zK") (by walk_at "zK") (by walk_at "zA") (by walk_at "zK") (by k_ne) (by ktr_room) (by ktr_units) ?_; k_whole); intro WTp gp gtp h' tkp hWp hA1W hA2W hA3W F' N'; walk_at "zE"; (try k_sweep))); k_steps))
    (rename ((_ : Int) = now + boundZ lo mo _) => eD1)
    subst eD1
    refine ret _ _ _ _ _ _ (by assumption) (by assumption) (by assumption) ?_ (by k_asm) (news_w (by assumption) (by (repeat (first | (with_reducible refine Sb.capp ?_) | ((with_reducible refine Sb.cons ?m9 ?_); (case m9 => k_mem)))); (repeat apply Sb.skip); exact Sb.refl))
    walk_at "zA"
end
/-! make -/
section
variable {w : World} {mean : ExcName → Option Value} {mg mb : Str → Option Value} {dp un : Nat} {gd : Option (List Code)} {cn : Str} {cs : Scope} {a : Addr} {ccd : Value} {cl : List (Str × Addr)} {outer : List Env} {A₀ : Around} {base h₀ : Heap}
  {L : Addr} {m : Str → Option Value} {rest : List (Addr × Obj)} {s : Shared} {Q E : Value → Shared → Prop}
local macro_rules | `(tactic| by_in) => `(tactic| decide)
set_option maxHeartbeats 0 in
theorem make_ct {tx td : Addr} {bB : Nat → Tok} {st se ck wh cng ack err pr una ngl : Value} {lx ld : Addr} {lB : Nat → Tok} {y0 y1 y2 y3 : Tok} {lf ll lm lt2 la lw : Value} {pa qa : Addr} {p1 p2 r1 r2 : Int} {x1 x2 x3 x4 tf tq : Tok} {sq : Int} (C : Cx w mean mg mb cs outer A₀ base h₀ L m s.heap)
    (N : News h₀ L s.heap ((tx, instObj 887 td) :: (td, tcbD w bB (.ref lx) (.ref pa) (.ref qa) st se .none ck cng ack wh err pr una ngl) :: (lx, instObj 844 ld) :: (ld, limD w lB (.int 256 y0) (.int 4 y1) (.int 20 y2) (.int 16 y3) lf ll lm lt2 la lw) :: (pa, tup2 p1 x1 p2 x2) :: (qa, tup2 r1 x3 r2 x4) :: rest)) (hd : dp + 40 < recursionLimit) (hu : un + 400 < cLine)
    (ret : ∀ (z : Addr) (h' : Heap) (tk' : Nat), Fr h₀ L h' m → News h₀ L h' ((tx, instObj 887 td) :: (td, tcbD w bB (.ref lx) (.ref pa) (.ref qa) st se .none ck cng ack wh err pr una ngl) :: (lx, instObj 844 ld) :: (ld, limD w lB (.int 256 y0) (.int 4 y1) (.int 20 y2) (.int 16 y3) lf ll lm lt2 la lw) :: (pa, tup2 p1 x1 p2 x2) :: (qa, tup2 r1 x3 r2 x4) :: rest) → Q (.ref z) { s with heap := h', toks := tk' }) :
    wpAny (model PySem.Challenge.rw_xw0342_01.row.prog w) (ktrTop dp un gd cn cs L a ccd cl outer) (call (.ref 884) [.ref tx, .int 2 tf, .int sq tq]) Q E s := by
  obtain ⟨B, F, X, T, hk⟩ := C
  refine wpAny_call ?_
  k_dflt (refine' code_def ?k1 ?k2 ?k3 ?k4 ?k5 ?kA ?kF ?kK ?k6 ?k7 ?k8 ?k9 ?kB ?_ ?c2 ?c3 ?c4 ?c5; (case kA => exact rfl); (case kF => exact rfl); (case kK => assumption); (case k1 => k_asm); (case k2 => k_asm); (case k3 => k_asm); (case k4 => k_asm); (case k5 => k_asm); (case k6 => k_is); (case k7 => k_is); (case k8 => ktr_room); (case k9 => exact binds_K (by k_in) rfl (by k_is) rfl rfl rfl); (case c5 => decide); (case kB => exact locs rfl); (case c2 => exact rfl); (case c3 => exact rfl); (case c4 => exact rfl); k_whole)
  intro g' L' h' FG' F' N' B' X' T'
  (try dsimp only)
  (try k_lift B')
  (try k_fold)
  (k_steps; repeat' (unfold Stopped; (first
    | ((with_reducible show wpAny _ _ (call (Value.ref 716) _) _ _ _); k_dflt (refine' seg_ct (by walk_at "zC") (by k_asm) (by ktr_room) (by ktr_units) ?_; k_whole); intro vs h' tkc F' N'; (try dsimp only); (try k_sweep))); k_steps))
  exact ret _ _ _ (by k_asm) (news_w (by assumption) (by (repeat (first | (with_reducible refine Sb.capp ?_) | ((with_reducible refine Sb.cons ?m9 ?_); (case m9 => k_mem)))); (repeat apply Sb.skip); exact Sb.refl))
end
/-! opening -/
section
variable {w : World} {mean : ExcName → Option Value} {mg mb : Str → Option Value} {dp un : Nat} {gd : Option (List Code)} {cn : Str} {cs : Scope} {a : Addr} {ccd : Value} {cl : List (Str × Addr)} {outer : List Env} {A₀ : Around} {base h₀ : Heap}
  {L : Addr} {m : Str → Option Value} {rest : List (Addr × Obj)} {s : Shared} {Q E : Value → Shared → Prop}
def opsD : List (PyData × PyData) := [(encTuple PyData.str [Str.ofString "closed", Str.ofString "listen"], PyData.str (Str.ofString "listen")), (encTuple PyData.str [Str.ofString "closed", Str.ofString "connect"], PyData.str (Str.ofString "syn sent")), (encTuple PyData.str [Str.ofString "listen", Str.ofString "connect"], PyData.str (Str.ofString "syn sent")), (encTuple PyData.str [Str.ofString "listen", Str.ofString "syn"], PyData.str (Str.ofString "syn received")), (encTuple PyData.str [Str.ofString "syn sent", Str.ofString "syn"], PyData.str (Str.ofString "syn received")), (encTuple PyData.str [Str.ofString "syn sent", Str.ofString "syn ack"], PyData.str (Str.ofString "established")), (encTuple PyData.str [Str.ofString "syn received", Str.ofString "ack of syn"], PyData.str (Str.ofString "established"))]
local macro_rules | `(tactic| walk_at "eval Dict") => `(tactic| ((rename (News _ _ _ _) => N0); (have off : ∀ p ∈ rest, p.1 ≠ _ := fun p hp => Nat.ne_of_lt (Heap.lt_size (N0 p hp).1)); (refine' Dict_tup_made (by with_unfolding_all rfl) (by k_asm) (by k_asm) (modules_low (Top.nolimit (by k_asm))) rfl rfl (List.cons_ne_nil _ _) (by decide) ?_); (intro o1 F1 N1 lo1 hd1); (try dsimp only)))
set_option maxHeartbeats 0 in
theorem opening_ct  (C : Cx w mean mg mb cs outer A₀ base h₀ L m s.heap)
    (N : News h₀ L s.heap (rest)) (hd : dp + 10 < recursionLimit) (hu : un + 100 < cLine)
    (ret : ∀ (d : Addr) (news : List (Addr × Obj)) (h' : Heap) (tk' : Nat), Fr h₀ L h' m → News h₀ L h' news → (∀ p ∈ rest, p ∈ news) → TupTab (strKind PySem.Challenge.rw_xw0342_01.row.prog w) PyData.str news d (putAllT opsD []) → Q (.ref d) { s with heap := h', toks := tk' }) :
    wpAny (model PySem.Challenge.rw_xw0342_01.row.prog w) (ktrTop dp un gd cn cs L a ccd cl outer) (call (.ref 741) []) Q E s := by
  obtain ⟨B, F, X, T, hk⟩ := C
  refine wpAny_call ?_
  k_dflt cell_enter
  k_steps
  (rename (∀ p, _ → _ → _ ∈ _) => kp)
  (rename (∀ (x : Addr × Obj), x ∈ rest → x.1 ≠ _) => off)
  refine ret _ _ _ _ (by k_asm) (by k_asm) (fun p hp => kp p (by repeat (first | exact hp | apply List.mem_cons_of_mem)) (off p hp)) ?_
  assumption
end
/-! follow -/
section
variable {w : World} {mean : ExcName → Option Value} {mg mb : Str → Option Value} {dp un : Nat} {gd : Option (List Code)} {cn : Str} {cs : Scope} {a : Addr} {ccd : Value} {cl : List (Str × Addr)} {outer : List Env} {A₀ : Around} {base h₀ : Heap}
  {L : Addr} {m : Str → Option Value} {rest : List (Addr × Obj)} {s : Shared} {Q E : Value → Shared → Prop}
local macro_rules | `(tactic| walk_at "getMethod ref") => `(tactic| (k_here; (with_reducible show wpAny _ _ (getMethod (Value.ref _) _ _) _ _ _); (rename TupTab _ _ _ _ _ => tupG); k_dflt (refine' getMethod_tupTab_get ?N tupG ?_; (case N => k_asm); k_whole)))
local macro_rules | `(tactic| walk_at "call builtin:dict.get") => `(tactic| (k_here; (with_reducible show wpAny _ _ (call (Value.builtin "dict.get") [Value.ref _, Value.ref _]) _ _ _); (rename TupTab _ _ _ _ _ => tupG); k_dflt (refine' call_get1_tupTab_eq (knd := PySem.strKind _ _) (ks := [Str.ofString "closed", Str.ofString "connect"]) (dv := PyData.str (Str.ofString "syn sent")) same_str ?U ?N (tupG.cons _) ?m ?K ?G ?_; (case U => ktr_units); (case N => k_asm); (case m => k_mem); (case K => exact TupKeyObj.made (by tuptab_items_str)); (case G => decide +kernel); k_whole); intro vG hG; cases hG))
set_option maxHeartbeats 0 in
theorem follow_ct {t1 t2 : Tok} (C : Cx w mean mg mb cs outer A₀ base h₀ L m s.heap)
    (N : News h₀ L s.heap (rest)) (hd : dp + 20 < recursionLimit) (hu : un + 300 < cLine)
    (ret : ∀ (t' : Tok) (h' : Heap) (tk' : Nat), Fr h₀ L h' m → News h₀ L h' (rest) → Q (.str (Str.ofString "syn sent") t') { s with heap := h', toks := tk' }) :
    wpAny (model PySem.Challenge.rw_xw0342_01.row.prog w) (ktrTop dp un gd cn cs L a ccd cl outer) (call (.ref 755) [.str (Str.ofString "closed") t1, .str (Str.ofString "connect") t2]) Q E s := by
  obtain ⟨B, F, X, T, hk⟩ := C
  refine wpAny_call ?_
  k_dflt cell_enter
  (k_steps; repeat' (unfold Stopped; (first
    | ((with_reducible show wpAny _ _ (call (Value.ref 741) _) _ _ _); k_dflt (refine' opening_ct (by walk_at "zC") (by k_asm) (by ktr_room) (by ktr_units) ?_; k_whole); intro dO newsO h' tkO F' N' subO tupO; (try dsimp only); (try k_sweep))); k_steps))
  (rename (News h₀ L _ _) => Nz)
  (rename (∀ (p : Addr × Obj), p ∈ rest → p ∈ _) => sb)
  exact ret _ _ _ (by assumption) fun p hp => Nz p (.tail _ (sb p hp))
end
/-! change -/
section
variable {w : World} {mean : ExcName → Option Value} {mg mb : Str → Option Value} {dp un : Nat} {gd : Option (List Code)} {cn : Str} {cs : Scope} {a : Addr} {ccd : Value} {cl : List (Str × Addr)} {outer : List Env} {A₀ : Around} {base h₀ : Heap}
  {L : Addr} {m : Str → Option Value} {rest : List (Addr × Obj)} {s : Shared} {Q E : Value → Shared → Prop}
set_option maxHeartbeats 0 in
theorem change_ct {tx td : Addr} {bB : Nat → Tok} {lim loc rmt se ck wh cng ack err pr una ngl : Value} {t1 t2 : Tok} (C : Cx w mean mg mb cs outer A₀ base h₀ L m s.heap)
    (N : News h₀ L s.heap ((tx, instObj 887 td) :: (td, tcbD w bB lim loc rmt (.str (Str.ofString "closed") t1) se .none ck cng ack wh err pr una ngl) :: rest)) (hR : ∀ p ∈ rest, p.1 ≠ td) (hne : @Ne Nat tx td) (hd : dp + 26 < recursionLimit) (hu : un + 400 < cLine)
    (ret : ∀ (t' : Tok) (h' : Heap) (tk' : Nat), Fr h₀ L h' m → News h₀ L h' ((tx, instObj 887 td) :: (td, tcbD w bB lim loc rmt (.str (Str.ofString "syn sent") t') se .none ck cng ack wh err pr una ngl) :: rest) → Q .none { s with heap := h', toks := tk' }) :
    wpAny (model PySem.Challenge.rw_xw0342_01.row.prog w) (ktrTop dp un gd cn cs L a ccd cl outer) (call (.ref 898) [.ref tx, .str (Str.ofString "connect") t2]) Q E s := by
  obtain ⟨B, F, X, T, hk⟩ := C
  refine wpAny_call ?_
  k_dflt cell_enter
  (k_steps; repeat' (unfold Stopped; (first
    | ((with_reducible show wpAny _ _ (call (Value.ref 755) _) _ _ _); k_dflt (refine' follow_ct (by walk_at "zC") (by k_asm) (by ktr_room) (by ktr_units) ?_; k_whole); intro tF h' tkF F' N'; (try dsimp only); (try k_sweep))); k_steps))
  exact ret _ _ _ (by k_asm) (news_w (by assumption) (by (repeat (first | (with_reducible refine Sb.capp ?_) | ((with_reducible refine Sb.cons ?m9 ?_); (case m9 => k_mem)))); (repeat apply Sb.skip); exact Sb.refl))
end
/-! openact -/
section
variable {w : World} {mean : ExcName → Option Value} {mg mb : Str → Option Value} {dp un : Nat} {gd : Option (List Code)} {cn : Str} {cs : Scope} {a : Addr} {ccd : Value} {cl : List (Str × Addr)} {outer : List Env} {A₀ : Around} {base h₀ : Heap}
  {L : Addr} {m : Str → Option Value} {rest : List (Addr × Obj)} {s : Shared} {Q E : Value → Shared → Prop}
set_option maxHeartbeats 0 in
theorem open_ct {wx wd sl lt ed : Addr} {qB : Nat → Tok} {z0 : Tok} {g : Int} {gt : Tok} {n : Nat} {T : List (Int × Int)} {WT : List (Addr × Obj)} {tx td : Addr} {bB : Nat → Tok} {cng ack err pr una ngl : Value} {stt : Tok} {pa qa : Addr} {p1 p2 r1 r2 : Int} {x1 x2 x3 x4 : Tok} {sx sd qx : Addr} {iB : Nat → Tok} {ms2 pe fs : Value} {w1 w2 w4 w5 w6 : Tok} {cx cd : Addr} {jB : Nat → Tok} {mt ta : Value} {u2 : Tok} {ex xd : Addr} {kB : Nat → Tok} {f lo mo m8 s4 ms : Int} {t0 t1 t2 t3 t4 t5 : Tok} {lx ld : Addr} {lB : Nat → Tok} {y0 y1 y2 y3 : Tok} {lf ll lm lt2 la lw : Value} {now : Int} {tn : Tok} (C : Cx w mean mg mb cs outer A₀ base h₀ L m s.heap)
    (N : News h₀ L s.heap ((wx, instObj 823 wd) :: (wd, whlD w qB (.int 16 z0) (.ref sl) (.ref lt) (.ref ed) .none (.int g gt)) :: (((tx, instObj 887 td) :: (td, tcbD w bB (.ref lx) (.ref pa) (.ref qa) (.str (Str.ofString "closed") stt) (.ref sx) .none (.ref cx) cng ack (.ref wx) err (pr) una ngl) :: (sx, instObj 666 sd) :: (sd, sndD w iB (.int 255 w1) (.int 256 w2) ms2 (.int 255 w4) (.int 255 w5) (.int 255 w6) pe (.ref qx) (.bool true) (.bool false) fs) :: (cx, instObj 321 cd) :: (cd, clkD w jB (.ref ex) mt (.int 0 u2) (.none) (ta)) :: (ex, instObj 377 xd) :: (xd, estD w kB (.int f t0) (.int lo t1) (.int mo t2) (.int m8 t3) (.int s4 t4) (.int ms t5)) :: (lx, instObj 844 ld) :: (ld, limD w lB (.int 256 y0) (.int 4 y1) (.int 20 y2) (.int 16 y3) lf ll lm lt2 la lw) :: (pa, tup2 p1 x1 p2 x2) :: (qa, tup2 r1 x3 r2 x4) :: rest) ++ WT))) (hW : WheelT w sl lt ed n T WT) (hn : n ≤ 900) (hA1 : ∀ p ∈ WT, p.1 ≠ wx) (hA2 : ∀ p ∈ WT, p.1 ≠ wd) (hA3 : ∀ q ∈ (tx, instObj 887 td) :: (td, tcbD w bB (.ref lx) (.ref pa) (.ref qa) (.str (Str.ofString "closed") stt) (.ref sx) .none (.ref cx) cng ack (.ref wx) err (pr) una ngl) :: (sx, instObj 666 sd) :: (sd, sndD w iB (.int 255 w1) (.int 256 w2) ms2 (.int 255 w4) (.int 255 w5) (.int 255 w6) pe (.ref qx) (.bool true) (.bool false) fs) :: (cx, instObj 321 cd) :: (cd, clkD w jB (.ref ex) mt (.int 0 u2) (.none) (ta)) :: (ex, instObj 377 xd) :: (xd, estD w kB (.int f t0) (.int lo t1) (.int mo t2) (.int m8 t3) (.int s4 t4) (.int ms t5)) :: (lx, instObj 844 ld) :: (ld, limD w lB (.int 256 y0) (.int 4 y1) (.int 20 y2) (.int 16 y3) lf ll lm lt2 la lw) :: (pa, tup2 p1 x1 p2 x2) :: (qa, tup2 r1 x3 r2 x4) :: rest, ∀ p ∈ WT, p.1 ≠ q.1) (hRtd : ∀ q ∈ rest, q.1 ≠ td) (hRsd : ∀ q ∈ rest, q.1 ≠ sd) (hRcd : ∀ q ∈ rest, q.1 ≠ cd) (hRwd : ∀ q ∈ rest, q.1 ≠ wd) (hDtd : @Ne Nat wx td ∧ @Ne Nat wd td ∧ @Ne Nat tx td ∧ @Ne Nat sx td ∧ @Ne Nat sd td ∧ @Ne Nat cx td ∧ @Ne Nat cd td ∧ @Ne Nat ex td ∧ @Ne Nat xd td ∧ @Ne Nat lx td ∧ @Ne Nat ld td ∧ @Ne Nat pa td ∧ @Ne Nat qa td) (hDsd : @Ne Nat wx sd ∧ @Ne Nat wd sd ∧ @Ne Nat tx sd ∧ @Ne Nat td sd ∧ @Ne Nat sx sd ∧ @Ne Nat cx sd ∧ @Ne Nat cd sd ∧ @Ne Nat ex sd ∧ @Ne Nat xd sd ∧ @Ne Nat lx sd ∧ @Ne Nat ld sd ∧ @Ne Nat pa sd ∧ @Ne Nat qa sd) (hDcd : @Ne Nat wx cd ∧ @Ne Nat wd cd ∧ @Ne Nat tx cd ∧ @Ne Nat td cd ∧ @Ne Nat sx cd ∧ @Ne Nat sd cd ∧ @Ne Nat cx cd ∧ @Ne Nat ex cd ∧ @Ne Nat xd cd ∧ @Ne Nat lx cd ∧ @Ne Nat ld cd ∧ @Ne Nat pa cd ∧ @Ne Nat qa cd) (hDwd : @Ne Nat wx wd ∧ @Ne Nat tx wd ∧ @Ne Nat td wd ∧ @Ne Nat sx wd ∧ @Ne Nat sd wd ∧ @Ne Nat cx wd ∧ @Ne Nat cd wd ∧ @Ne Nat ex wd ∧ @Ne Nat xd wd ∧ @Ne Nat lx wd ∧ @Ne Nat ld wd ∧ @Ne Nat pa wd ∧ @Ne Nat qa wd) (hT : atT T 1 = none) (hd : dp + 80 < recursionLimit) (hu : un + 1400 < cLine)
    (ret : ∀ (WT' : List (Addr × Obj)) (z : Addr) (g' : Int) (gt' prt stt' w5' w6' : Tok) (h' : Heap) (tk' : Nat), WheelT w sl lt ed (n + 1) (((T.filter fun (p : Int × Int) => !(p.1 == 1)) ++ [(1, now + boundZ lo mo (2 ^ (min (0 : Int) 7).toNat * boundZ lo mo (plainZ f m8 s4 ms)))]).filter fun (p : Int × Int) => !(p.1 == 2)) WT' → (∀ p ∈ WT', p.1 ≠ wx) → (∀ p ∈ WT', p.1 ≠ wd) → (∀ q ∈ (tx, instObj 887 td) :: (td, tcbD w bB (.ref lx) (.ref pa) (.ref qa) (.str (Str.ofString "closed") stt) (.ref sx) .none (.ref cx) cng ack (.ref wx) err (pr) una ngl) :: (sx, instObj 666 sd) :: (sd, sndD w iB (.int 255 w1) (.int 256 w2) ms2 (.int 255 w4) (.int 255 w5) (.int 255 w6) pe (.ref qx) (.bool true) (.bool false) fs) :: (cx, instObj 321 cd) :: (cd, clkD w jB (.ref ex) mt (.int 0 u2) (.none) (ta)) :: (ex, instObj 377 xd) :: (xd, estD w kB (.int f t0) (.int lo t1) (.int mo t2) (.int m8 t3) (.int s4 t4) (.int ms t5)) :: (lx, instObj 844 ld) :: (ld, limD w lB (.int 256 y0) (.int 4 y1) (.int 20 y2) (.int 16 y3) lf ll lm lt2 la lw) :: (pa, tup2 p1 x1 p2 x2) :: (qa, tup2 r1 x3 r2 x4) :: rest, ∀ p ∈ WT', p.1 ≠ q.1) → Fr h₀ L h' m → News h₀ L h' ((wx, instObj 823 wd) :: (wd, whlD w qB (.int 16 z0) (.ref sl) (.ref lt) (.ref ed) .none (.int g' gt')) :: (((tx, instObj 887 td) :: (td, tcbD w bB (.ref lx) (.ref pa) (.ref qa) (.str (Str.ofString "syn sent") stt') (.ref sx) .none (.ref cx) cng ack (.ref wx) err (.int 0 prt) una ngl) :: (sx, instObj 666 sd) :: (sd, sndD w iB (.int 255 w1) (.int 256 w2) ms2 (.int 255 w4) (.int 0 w5') (.int 0 w6') pe (.ref qx) (.bool true) (.bool false) fs) :: (cx, instObj 321 cd) :: (cd, clkD w jB (.ref ex) mt (.int 0 u2) (.int 0 w5') (.int now tn)) :: (ex, instObj 377 xd) :: (xd, estD w kB (.int f t0) (.int lo t1) (.int mo t2) (.int m8 t3) (.int s4 t4) (.int ms t5)) :: (lx, instObj 844 ld) :: (ld, limD w lB (.int 256 y0) (.int 4 y1) (.int 20 y2) (.int 16 y3) lf ll lm lt2 la lw) :: (pa, tup2 p1 x1 p2 x2) :: (qa, tup2 r1 x3 r2 x4) :: rest) ++ WT')) → Q (.ref z) { s with heap := h', toks := tk' }) :
    wpAny (model PySem.Challenge.rw_xw0342_01.row.prog w) (ktrTop dp un gd cn cs L a ccd cl outer) (call (.ref 905) [.ref tx, .int now tn]) Q E s := by
  obtain ⟨B, F, X, T0, hk⟩ := C
  replace hA3 := ap_mk hA3
  dsimp only [List.cons_append] at N
  obtain ⟨vtd0, vtd1, vtd2, vtd3, vtd4, vtd5, vtd6, vtd7, vtd8, vtd9, vtd10, vtd11, vtd12⟩ := hDtd
  obtain ⟨vsd0, vsd1, vsd2, vsd3, vsd4, vsd5, vsd6, vsd7, vsd8, vsd9, vsd10, vsd11, vsd12⟩ := hDsd
  obtain ⟨vcd0, vcd1, vcd2, vcd3, vcd4, vcd5, vcd6, vcd7, vcd8, vcd9, vcd10, vcd11, vcd12⟩ := hDcd
  obtain ⟨vwd0, vwd1, vwd2, vwd3, vwd4, vwd5, vwd6, vwd7, vwd8, vwd9, vwd10, vwd11, vwd12⟩ := hDwd
  refine wpAny_call ?_
  k_dflt cell_enter
  (k_steps; repeat' (unfold Stopped; (first
    | ((with_reducible show wpAny _ _ (call (Value.ref 898) _) _ _ _); k_dflt (refine' change_ct (by walk_at "zC") (by walk_at "zN") (by walk_at "zK") (by k_ne) (by ktr_room) (by ktr_units) ?_; k_whole); intro tC h' tkcha F' N'; (try dsimp only); (try k_sweep))
    | ((with_reducible show wpAny _ _ (call (Value.ref 585) _) _ _ _); k_dflt (refine' start_ct (by walk_at "zC") (by walk_at "zN") (by walk_at "zK") (by k_ne) (by ktr_room) (by ktr_units) ?_; k_whole); intro nxT grT w5T w6T w1T h' tkT eT1 eT2 F' N'; (try dsimp only); (try k_sweep))
    | ((with_reducible show wpAny _ _ (call (Value.ref 884) _) _ _ _); k_dflt (refine' make_ct (by walk_at "zC") (by walk_at "zN") (by ktr_room) (by ktr_units) ?_; k_whole); intro zM h' tkmak F' N'; (try dsimp only); (try k_sweep))
    | ((with_reducible show wpAny _ _ (call (Value.ref 276) _) _ _ _); k_dflt (refine' sent_ct (by walk_at "zC") (by walk_at "zN") (by walk_at "zK") (by k_ne) (by ktr_room) (by ktr_units) ?_; k_whole); intro h' tkS F' N'; (try dsimp only); (try k_sweep))
    | ((with_reducible show wpAny _ _ (call (Value.ref 954) _) _ _ _); k_dflt (refine' keep_ct (by walk_at "zC") (by walk_at "zN") (by assumption) (by omega) (by walk_at "zK") (by walk_at "zK") (by walk_at "zA") (by walk_at "zO") (by walk_at "zO") (by walk_at "zK") (by walk_at "zK") (by walk_at "zD") (by walk_at "zD") (by first | assumption | rfl) (by first | assumption | decide | (subst_vars; decide) | omega) (by ktr_room) (by ktr_units) ?_; k_whole); intro WTk gk gtk prtk h' tkk hWk hA1W hA2W hA3W F' N'; walk_at "zE"; (try k_sweep))); k_steps))
  subst_vars
  refine ret _ _ _ _ _ _ _ _ _ _ (by assumption) (by assumption) (by assumption) ?_ (by k_asm) (news_w (by assumption) (by (repeat (first | (with_reducible refine Sb.capp ?_) | ((with_reducible refine Sb.cons ?m9 ?_); (case m9 => k_mem)))); (repeat apply Sb.skip); exact Sb.refl))
  walk_at "zA"
end
/-! kls -/
section
variable {w : World} {mean : ExcName → Option Value} {mg mb : Str → Option Value} {dp un : Nat} {gd : Option (List Code)} {cn : Str} {cs : Scope} {a : Addr} {ccd : Value} {cl : List (Str × Addr)} {outer : List Env} {A₀ : Around} {base h₀ : Heap}
  {L : Addr} {m : Str → Option Value} {rest : List (Addr × Obj)} {s : Shared} {Q E : Value → Shared → Prop}
theorem toNe {a b : Addr} (h : a ≠ b) : @Ne Nat a b := h
theorem off1_mem {D : Addr} : ∀ {l : List (Addr × Obj)}, LCg.Off1 D l → ∀ p ∈ l, p.1 ≠ D
  | [], _, _, h => nomatch h
  | _ :: _, x, p, h => by
    rcases List.mem_cons.mp h with rfl | h
    · exact x.1
    · exact off1_mem x.2 p h
theorem nw2 {a b : Addr × Obj} {rest : List (Addr × Obj)} : ∀ t p, p ∈ (fun t : List (Addr × Obj) => a :: b :: (rest ++ t)) t ↔ p ∈ a :: b :: rest ∨ p ∈ t := fun t p => by
  simp only [List.mem_cons, List.mem_append]
  grind
set_option maxHeartbeats 0 in
theorem kls_rest {prog : Program} {A : Around} {env : Env} {x : Str} {scope : Scope} {P : Nat → Value → Prop} {Fin : List Value → List (Addr × Obj) → Prop} {pos : Pos} {news₀ : List (Addr × Obj)} {nw : List (Addr × Obj) → List (Addr × Obj)} {n : Nat}
    (hnw : ∀ t p, p ∈ nw t ↔ p ∈ news₀ ∨ p ∈ t) (hn : 0 < n)
    (fin : ∀ ss : List Slt, ss.length = n → (∀ y ∈ ss, y.ks = #[] ∧ y.ep = 0) → (ss.map (·.sa)).Nodup → (∀ q ∈ news₀, ∀ p ∈ slotL ss, p.1 ≠ q.1) → Fin (itsE ss) (nw (slotL ss))) :
    LCg.CompRest prog w A h₀ L m env (.List [] pos) x scope cl s (fun _ => True) P Fin n 0 [] news₀ := by
  have key : ∀ (k i : Nat) (ss : List Slt) (news : List (Addr × Obj)), ss.length + k = n → (k = 0 → news = nw (slotL ss)) → (∀ p, p ∈ news ↔ p ∈ news₀ ∨ p ∈ slotL ss) → (∀ y ∈ ss, y.ks = #[] ∧ y.ep = 0) → (ss.map (·.sa)).Nodup → (∀ y ∈ ss, ∀ p ∈ news₀, p.1 < y.sa) →
      LCg.CompRest prog w A h₀ L m env (.List [] pos) x scope cl s (fun _ => True) P Fin k i (itsE ss) news := by
    intro k
    induction k with
    | zero =>
      intro i ss news hl h0 hm hk hd hlt
      rw [h0 rfl]
      exact LCg.CompRest.zero (fin ss hl hk hd fun q hq p hp => by
        obtain ⟨y, hy, rfl⟩ := List.mem_map.mp hp
        exact Nat.ne_of_gt (hlt y hy q hq))
    | succ k ih =>
      intro i ss news hl h0 hm hk hd hlt
      refine LCg.CompRest.succ ?_
      intro v I oI C oC D m₂ h tk E' hv hC hx F N off ne
      rw [arm_eval_List]
      refine wpAny_bind (wpAny_standAt ?_)
      refine wpAny_bind (wpAny_mono (Q := fun vs s' => vs = [] ∧ s' = { s with heap := h, toks := tk }) ?_ (fun vs s' e => ?_) fun _ _ e => e)
      · k_steps
        all_goals trivial
      · obtain ⟨rfl, rfl⟩ := e
        refine newList_K F N fun l h' F' N' lt => ?_
        have lt1 : ∀ p ∈ news, p.1 < l := fun p hp => lt p (by simp [hp])
        refine LCg.CompEnd.intro (news' := nw (slotL (ss ++ [⟨l, #[], 0⟩]))) F' N' ?_ (LCg.Off3.of ?_) True.intro ?_
        · intro p hp
          have hs : p ∈ nw (slotL (ss ++ [⟨l, #[], 0⟩])) → p ∈ (l, listOf #[] 0) :: news := fun hp => by
            rcases (hnw _ p).mp hp with hp | hp
            · exact List.mem_cons_of_mem _ ((hm p).mpr (.inl hp))
            · rw [slotL_app] at hp
              rcases List.mem_append.mp hp with hp | hp
              · exact List.mem_cons_of_mem _ ((hm p).mpr (.inr hp))
              · rw [List.mem_singleton.mp (show p ∈ [(l, listOf #[] 0)] from hp)]
                exact List.mem_cons_self
          rcases List.mem_cons.mp hp with rfl | hp
          · exact .tail _ (.head _)
          rcases List.mem_cons.mp hp with rfl | hp
          · exact .tail _ (.tail _ (.head _))
          rcases List.mem_cons.mp hp with rfl | hp
          · exact .tail _ (.tail _ (.tail _ (.head _)))
          rcases List.mem_cons.mp (hs hp) with rfl | hp
          · exact .head _
          · exact .tail _ (.tail _ (.tail _ (.tail _ hp)))
        · intro p hp
          have hl1 : @LT.lt Nat _ I l := lt (I, oI) (.head _)
          have hl2 : @LT.lt Nat _ C l := lt (C, oC) (.tail _ (.head _))
          have hl3 : @LT.lt Nat _ D l := lt (D, LCg.lst (itsE ss)) (.tail _ (.tail _ (.head _)))
          rcases (hnw _ p).mp hp with hp | hp
          · exact off.mem p ((hm p).mpr (.inl hp))
          · rw [slotL_app] at hp
            rcases List.mem_append.mp hp with hp | hp
            · exact off.mem p ((hm p).mpr (.inr hp))
            · rw [List.mem_singleton.mp (show p ∈ [(l, listOf #[] 0)] from hp)]
              exact ⟨Nat.ne_of_gt hl1, Nat.ne_of_gt hl2, Nat.ne_of_gt hl3⟩
        · have e : itsE ss ++ [Value.ref l] = itsE (ss ++ [⟨l, #[], 0⟩]) := by simp [itsE]
          rw [e]
          refine ih (i + 1) (ss ++ [⟨l, #[], 0⟩]) _ (by rw [List.length_append, List.length_singleton]; omega) (fun _ => rfl) (fun p => hnw _ p) (fun y hy => ?_) ?_ (fun y hy p hp => ?_)
          · rcases List.mem_append.mp hy with hy | hy
            · exact hk y hy
            · rw [List.mem_singleton.mp hy]
              exact ⟨rfl, rfl⟩
          · rw [List.map_append]
            refine List.nodup_append.mpr ⟨hd, by simp, fun a ha b hb => ?_⟩
            obtain ⟨y, hy, rfl⟩ := List.mem_map.mp ha
            have hb' : b = l := by simpa using hb
            rw [hb']
            exact Nat.ne_of_lt (lt1 (y.sa, listOf y.ks y.ep) ((hm _).mpr (.inr (List.mem_map.mpr ⟨y, hy, rfl⟩))))
          · rcases List.mem_append.mp hy with hy | hy
            · exact hlt y hy p hp
            · rw [List.mem_singleton.mp hy]
              exact lt1 p ((hm p).mpr (.inl hp))
  exact key n 0 [] news₀ (by simp) (fun h => absurd h (by omega)) (fun p => by simp [slotL]) (fun _ h => nomatch h) List.nodup_nil (fun _ h => nomatch h)
def whL (sl lt ed : Addr) (esl elt : Nat) (o : Obj) (ss : List Slt) : List (Addr × Obj) := (sl, listOf (itsE ss).toArray esl) :: (lt, listOf #[] elt) :: (ed, o) :: (slotL ss ++ entL [])
theorem whL_news {h : Heap} {rest : List (Addr × Obj)} {sl lt ed : Addr} {esl elt : Nat} {o : Obj} {ss : List Slt} {e1 e2 : Addr × Obj} (N : News h₀ L h ((ed, o) :: (lt, listOf #[] elt) :: (sl, listOf (itsE ss).toArray esl) :: e1 :: e2 :: (rest ++ slotL ss))) :
    News h₀ L h (e1 :: e2 :: (rest ++ whL sl lt ed esl elt o ss)) := fun p hp => N p (by
  unfold whL at hp
  simp only [show entL [] = [] from rfl, List.append_nil, List.mem_cons, List.mem_append] at hp ⊢
  grind)
theorem whL_off {sl lt ed : Addr} {esl elt : Nat} {o : Obj} {ss : List Slt} {d : Addr} (h : ∀ p ∈ slotL ss, p.1 ≠ d) (a : @Ne Nat sl d) (b : @Ne Nat lt d) (c : @Ne Nat ed d) : ∀ p ∈ whL sl lt ed esl elt o ss, p.1 ≠ d := fun p hp => by
  unfold whL at hp
  simp only [show entL [] = [] from rfl, List.append_nil, List.mem_cons] at hp
  rcases hp with rfl | rfl | rfl | hp
  · exact a
  · exact b
  · exact c
  · exact h p hp
theorem whL_is {w : World} {rest : List (Addr × Obj)} {sl lt ed : Addr} {esl elt : Nat} {o : Obj} {ss : List Slt} (h1 : ss.length = 16) (h2 : ∀ y ∈ ss, y.ks = #[] ∧ y.ep = 0) (h3 : (ss.map (·.sa)).Nodup)
    (hd : o.IsDictOf (intKind PySem.Challenge.rw_xw0342_01.row.prog w) ([] : List (Int × Value))) (lo : (ed == sysModules) = false) (off : ∀ x ∈ rest ++ slotL ss, x.1 ≠ sl) (l1 : AllLt lt (rest ++ slotL ss)) (l2 : AllLt ed (rest ++ slotL ss))
    (a1 : @LT.lt Nat _ sl lt) (a2 : @LT.lt Nat _ sl ed) (a3 : @LT.lt Nat _ lt ed) : WheelT w sl lt ed 0 [] (whL sl lt ed esl elt o ss) := by
  have m1 := allLt_ne l1
  have m2 := allLt_ne l2
  have k : ∀ d : Addr, (∀ x ∈ rest ++ slotL ss, x.1 ≠ d) → d ∉ ss.map (·.sa) := fun d h hd => by
    obtain ⟨y, hy, e⟩ := List.mem_map.mp hd
    exact h (y.sa, listOf y.ks y.ep) (List.mem_append_right _ (List.mem_map.mpr ⟨y, hy, rfl⟩)) e
  refine ⟨esl, elt, o, ss, [], rfl, h1, fun x hx => ?_, hd, lo, rfl, ?_, Nat.zero_le _⟩
  · rw [(h2 x hx).1]
    exact ⟨rfl, Nat.le_refl _⟩
  · have n1 : @Ne Nat sl lt := Nat.ne_of_lt a1
    have n2 : @Ne Nat sl ed := Nat.ne_of_lt a2
    have n3 : @Ne Nat lt ed := Nat.ne_of_lt a3
    simp only [List.map_nil, List.append_nil, List.nodup_cons, List.mem_cons, not_or]
    exact ⟨⟨n1, n2, k sl off⟩, ⟨n3, k lt m1⟩, k ed m2, h3⟩
theorem ltNe {d : Addr} {a b : List (Addr × Obj)} (h : AllLt d (a ++ b)) (q : Addr × Obj) (hq : q ∈ a) : @Ne Nat d q.1 := fun e => allLt_ne h q (List.mem_append_left _ hq) e.symm
end
/-! cwheel -/
section
variable {w : World} {mean : ExcName → Option Value} {mg mb : Str → Option Value} {dp un : Nat} {gd : Option (List Code)} {cn : Str} {cs : Scope} {a : Addr} {ccd : Value} {cl : List (Str × Addr)} {outer : List Env} {A₀ : Around} {base h₀ : Heap}
  {L : Addr} {m : Str → Option Value} {rest : List (Addr × Obj)} {s : Shared} {Q E : Value → Shared → Prop}
local macro_rules | `(tactic| walk_at "CompSrc") => `(tactic| (k_here; k_dflt (refine LCg.CompSrc.range (n := 16) (by rfl) (by k_asm) (by k_asm) (by assumption) (by first | decide | rfl) (by first | rfl | decide) (by first | size_fits | exact Nat.le_of_ble_eq_true rfl) ?_; intro g')))
local macro_rules | `(tactic| walk_at "CompRest") => `(tactic| (refine kls_rest nw2 (by decide) ?_; intro ss hss1 hss2 hss3 hss4; (simp only [List.forall_mem_cons] at hss4); (have hss5 := And.left hss4; replace hss4 := And.right hss4; have hss6 := And.left hss4; replace hss4 := And.right hss4); (try dsimp only)))
local macro_rules | `(tactic| walk_at "FinE") => `(tactic| (unfold LCg.FinE; intro D' h' tk' F' N' o1'; (have o2' := off1_mem o1'); (simp only [List.forall_mem_cons] at o2'); (have o3' := toNe (And.left o2'); replace o2' := And.right o2'; have o4' := toNe (And.left o2'); replace o2' := And.right o2'); clear o1'; (try dsimp only)))
set_option maxHeartbeats 0 in
theorem wheel_ct (C : Cx w mean mg mb cs outer A₀ base h₀ L m s.heap)
    (N : News h₀ L s.heap rest) (hd : dp + 20 < recursionLimit) (hu : un + 600 < cLine)
    (ret : ∀ (wd wx sl lt ed : Addr) (qB : Nat → Tok) (z0 gt : Tok) (WT : List (Addr × Obj)) (h' : Heap) (tk' : Nat), AllLt wd rest → @LT.lt Nat _ wd wx → WheelT w sl lt ed 0 [] WT → (∀ p ∈ WT, p.1 ≠ wx) → (∀ p ∈ WT, p.1 ≠ wd) → (∀ q ∈ rest, ∀ p ∈ WT, p.1 ≠ q.1) → Fr h₀ L h' m → News h₀ L h' ((wx, instObj 823 wd) :: (wd, whlD w qB (.int 16 z0) (.ref sl) (.ref lt) (.ref ed) .none (.int 0 gt)) :: (rest ++ WT)) → Q (.ref wx) { s with heap := h', toks := tk' }) :
    wpAny (model PySem.Challenge.rw_xw0342_01.row.prog w) (ktrTop dp un gd cn cs L a ccd cl outer) (call (.ref 823) []) Q E s := by
  refine' cls_go C N ?hm ?hi ?hf ?ho ?hcd ?hroom ?hbind ?hloc ?hco ?hgen ?hk ?hcell ?_
  (case hm => k_is)
  (case hi => k_is)
  (case hf => k_is)
  (case ho => k_is)
  (case hcd => k_is)
  (case hroom => ktr_room)
  (case hbind => exact fun _ _ X8 => binds_K X8 rfl (by k_is) rfl rfl rfl)
  (case hloc => exact fun _ => locs rfl)
  (case hco => exact rfl)
  (case hgen => exact rfl)
  (case hk => exact rfl)
  (case hcell => decide)
  intro x9 d9 g9 L9 h9 tk9 Q9 E9 l91 l92 F1 N1 B1 X1 T1 hq9
  k_steps
  refine hq9 _ _ _ _ (by k_asm) (by k_asm) fun kF Nz => ?_
  (rename (∀ (x : Addr × Obj), x ∈ rest → ∀ (p : Addr × Obj), p ∈ slotL _ → p.1 ≠ x.1) => H4)
  (rename (∀ (x : Addr × Obj), x ∈ rest ++ slotL _ → x.1 ≠ _) => H2)
  refine ret _ _ _ _ _ (tkL [_, _, _, _, _, _]) _ _ _ _ _ l91 l92 ?W ?o1 ?o2 ?o3 kF (whL_news Nz)
  (case W => exact whL_is (by assumption) (by assumption) (by assumption) (by assumption) (by assumption) H2 (by first | assumption | (refine' lt_sub ?h ?s; (case h => with_reducible assumption); (case s => o_recAt))) (by first | assumption | (refine' lt_sub ?h ?s; (case h => with_reducible assumption); (case s => o_recAt))) (by first | assumption | (refine' lt_in ?h ?m; (case h => with_reducible assumption); (case m => k_mem))) (by first | assumption | (refine' lt_in ?h ?m; (case h => with_reducible assumption); (case m => k_mem))) (by first | assumption | (refine' lt_in ?h ?m; (case h => with_reducible assumption); (case m => k_mem))))
  (case o1 => exact whL_off (by assumption) (by k_ne) (by k_ne) (by k_ne))
  (case o2 => exact whL_off (by assumption) (by k_ne) (by k_ne) (by k_ne))
  (case o3 => exact fun q hq => whL_off (H4 q hq) (fun h => H2 q (List.mem_append_left _ hq) h.symm) (fun h => (by k_all : ∀ p ∈ rest, p.1 ≠ _) q hq h.symm) (fun h => (by k_all : ∀ p ∈ rest, p.1 ≠ _) q hq h.symm))
end
/-! acked -/
section
variable {w : World} {mean : ExcName → Option Value} {mg mb : Str → Option Value} {dp un : Nat} {gd : Option (List Code)} {cn : Str} {cs : Scope} {a : Addr} {ccd : Value} {cl : List (Str × Addr)} {outer : List Env} {A₀ : Around} {base h₀ : Heap}
  {L : Addr} {m : Str → Option Value} {rest : List (Addr × Obj)} {s : Shared} {Q E : Value → Shared → Prop}
set_option maxHeartbeats 0 in
theorem acked_ct {sx sd qx : Addr} {iB : Nat → Tok} {ms2 pe fa fs : Value} {w1 w2 w4 w5 w6 : Tok} {qd : Addr} {hB : Nat → Tok} {h2 h3 : Tok} {ta : Tok} (C : Cx w mean mg mb cs outer A₀ base h₀ L m s.heap)
    (N : News h₀ L s.heap ((sx, instObj 666 sd) :: (sd, sndD w iB (.int 255 w1) (.int 256 w2) ms2 (.int 255 w4) (.int 0 w5) (.int 0 w6) pe (.ref qx) (.bool true) fa fs) :: (qx, instObj 433 qd) :: (qd, queD w hB (.int 20 h3) (.bytes #[] h2)) :: rest)) (hR : ∀ p ∈ rest, p.1 ≠ sd) (hR2 : ∀ p ∈ rest, p.1 ≠ qd) (hD : @Ne Nat sx sd ∧ @Ne Nat qx sd ∧ @Ne Nat qd sd ∧ @Ne Nat sx qd ∧ @Ne Nat qx qd) (hd : dp + 20 < recursionLimit) (hu : un + 300 < cLine)
    (ret : ∀ (z : Addr) (z0 : Int) (b0 : Bool) (t1 : Tok) (h' : Heap) (tk' : Nat), (z0 = 0) → (b0 = false) → (AllLt z ((sx, instObj 666 sd) :: (sd, sndD w iB (.int 255 w1) (.int 256 w2) ms2 (.int 255 w4) (.int 0 w5) (.int 0 w6) pe (.ref qx) (.bool true) fa fs) :: (qx, instObj 433 qd) :: (qd, queD w hB (.int 20 h3) (.bytes #[] h2)) :: rest)) → Fr h₀ L h' m → News h₀ L h' ((z, ({ cls := .type "tuple", data := .seq #[.int z0 t1, .bool true, .bool b0] } : Obj)) :: (sx, instObj 666 sd) :: (sd, sndD w iB (.int 255 w1) (.int 256 w2) ms2 (.int 0 ta) (.int 0 w5) (.int 0 w6) pe (.ref qx) (.bool false) fa fs) :: rest) → Q (.ref z) { s with heap := h', toks := tk' }) :
    wpAny (model PySem.Challenge.rw_xw0342_01.row.prog w) (ktrTop dp un gd cn cs L a ccd cl outer) (call (.ref 663) [.ref sx, .int 0 ta]) Q E s := by
  obtain ⟨B, F, X, T, hk⟩ := C
  obtain ⟨d1, d2, d3, d4, d5⟩ := hD
  refine wpAny_call ?_
  k_dflt cell_enter
  (k_steps; repeat' (unfold Stopped; (first
    | ((with_reducible show wpAny _ _ (call (Value.ref 529) _) _ _ _); k_dflt (refine' flight_ct (by walk_at "zC") (by walk_at "zN") (by ktr_room) (by ktr_units) ?_; k_whole); intro zF tF h' tkF eF F' N'; (try dsimp only); (try k_sweep))); k_steps))
  refine ret _ _ _ _ _ _ ?z1 ?z2 ?z3 (by k_asm) (news_w (by assumption) (by (repeat (first | (with_reducible refine Sb.capp ?_) | ((with_reducible refine Sb.cons ?m9 ?_); (case m9 => k_mem)))); (repeat apply Sb.skip); exact Sb.refl))
  (case z1 => decide)
  (case z2 => decide)
  (case z3 => (first | assumption | omega | (repeat' (first | assumption | omega | refine And.intro ?_ ?_))))
end
/-! ctcb -/
section
variable {w : World} {mean : ExcName → Option Value} {mg mb : Str → Option Value} {dp un : Nat} {gd : Option (List Code)} {cn : Str} {cs : Scope} {a : Addr} {ccd : Value} {cl : List (Str × Addr)} {outer : List Env} {A₀ : Around} {base h₀ : Heap}
  {L : Addr} {m : Str → Option Value} {rest : List (Addr × Obj)} {s : Shared} {Q E : Value → Shared → Prop}
theorem hide_s {G : Prop} {g h : Heap} {L' : Addr} {a b c d e1 e2 e3 e4 : Addr × Obj} {r : List (Addr × Obj)} (N : News g L' h (a :: b :: c :: d :: e1 :: e2 :: e3 :: e4 :: r)) (k : ∀ R, [a, b, c, d] = R → News g L' h (e1 :: e2 :: e3 :: e4 :: (R ++ r)) → G) : G :=
  k _ rfl fun p hp => N p (by
    simp only [List.cons_append, List.nil_append, List.mem_cons] at hp ⊢
    rcases hp with hp | hp | hp | hp | hp | hp | hp | hp | hp
    · exact .inr (.inr (.inr (.inr (.inl hp))))
    · exact .inr (.inr (.inr (.inr (.inr (.inl hp)))))
    · exact .inr (.inr (.inr (.inr (.inr (.inr (.inl hp))))))
    · exact .inr (.inr (.inr (.inr (.inr (.inr (.inr (.inl hp)))))))
    · exact .inl hp
    · exact .inr (.inl hp)
    · exact .inr (.inr (.inl hp))
    · exact .inr (.inr (.inr (.inl hp)))
    · exact .inr (.inr (.inr (.inr (.inr (.inr (.inr (.inr hp))))))))
set_option maxHeartbeats 0 in
theorem tcb_ct {lx ld : Addr} {lB : Nat → Tok} {y0 y1 y2 y3 y4 y5 y6 y7 y8 y9 : Tok} {f lo mo tr : Int} {pa qa : Addr} {w1 : Tok} (C : Cx w mean mg mb cs outer A₀ base h₀ L m s.heap)
    (N : News h₀ L s.heap ((lx, instObj 844 ld) :: (ld, limD w lB (.int 256 y0) (.int 4 y1) (.int 20 y2) (.int 16 y3) (.int f y4) (.int lo y5) (.int mo y6) (.int tr y7) (.int 2 y8) (.int 12 y9)) :: rest)) (hd : dp + 60 < recursionLimit) (hu : un + 1200 < cLine)
    (ret : ∀ (td tx sd sx qd qx xd ex cd cx px wd wx sl lt ed : Addr) (cng ack : Value) (bB : Nat → Tok) (stt pr un2 : Tok) (iB : Nat → Tok) (hB : Nat → Tok) (h2 : Tok) (kB : Nat → Tok) (t3 t4 t5 : Tok) (jB : Nat → Tok) (u2 u3 : Tok) (qB : Nat → Tok) (z0 gt : Tok) (WT : List (Addr × Obj)) (h' : Heap) (tk' : Nat), AllLt td ((lx, instObj 844 ld) :: (ld, limD w lB (.int 256 y0) (.int 4 y1) (.int 20 y2) (.int 16 y3) (.int f y4) (.int lo y5) (.int mo y6) (.int tr y7) (.int 2 y8) (.int 12 y9)) :: rest) → Srt td [wx, wd, cx, cd, ex, xd, qx, qd, sx, sd, tx, td] → WheelT w sl lt ed 0 [] WT → (∀ p ∈ WT, p.1 ≠ wx) → (∀ p ∈ WT, p.1 ≠ wd) → (∀ q ∈ (tx, instObj 887 td) :: (td, tcbD w bB (.ref lx) (.ref pa) (.ref qa) (.str (Str.ofString "closed") stt) (.ref sx) .none (.ref cx) cng ack (.ref wx) .none (.int 0 pr) (.int 0 un2) (.bool true)) :: (sx, instObj 666 sd) :: (sd, sndD w iB (.int 255 w1) (.int 256 y0) (.int 4 y1) (.int 255 w1) (.int 255 w1) (.int 255 w1) (.ref px) (.ref qx) (.bool true) (.bool false) (.bool false)) :: (cx, instObj 321 cd) :: (cd, clkD w jB (.ref ex) (.int tr y7) (.int 0 u2) .none (.int 0 u3)) :: (ex, instObj 377 xd) :: (xd, estD w kB (.int f y4) (.int lo y5) (.int mo y6) (.int 0 t3) (.int 0 t4) (.int 0 t5)) :: (qx, instObj 433 qd) :: (qd, queD w hB (.int 20 y2) (.bytes #[] h2)) :: (lx, instObj 844 ld) :: (ld, limD w lB (.int 256 y0) (.int 4 y1) (.int 20 y2) (.int 16 y3) (.int f y4) (.int lo y5) (.int mo y6) (.int tr y7) (.int 2 y8) (.int 12 y9)) :: rest, ∀ p ∈ WT, p.1 ≠ q.1) → Fr h₀ L h' m → News h₀ L h' ((wx, instObj 823 wd) :: (wd, whlD w qB (.int 16 z0) (.ref sl) (.ref lt) (.ref ed) .none (.int 0 gt)) :: (((tx, instObj 887 td) :: (td, tcbD w bB (.ref lx) (.ref pa) (.ref qa) (.str (Str.ofString "closed") stt) (.ref sx) .none (.ref cx) cng ack (.ref wx) .none (.int 0 pr) (.int 0 un2) (.bool true)) :: (sx, instObj 666 sd) :: (sd, sndD w iB (.int 255 w1) (.int 256 y0) (.int 4 y1) (.int 255 w1) (.int 255 w1) (.int 255 w1) (.ref px) (.ref qx) (.bool true) (.bool false) (.bool false)) :: (cx, instObj 321 cd) :: (cd, clkD w jB (.ref ex) (.int tr y7) (.int 0 u2) .none (.int 0 u3)) :: (ex, instObj 377 xd) :: (xd, estD w kB (.int f y4) (.int lo y5) (.int mo y6) (.int 0 t3) (.int 0 t4) (.int 0 t5)) :: (qx, instObj 433 qd) :: (qd, queD w hB (.int 20 y2) (.bytes #[] h2)) :: (lx, instObj 844 ld) :: (ld, limD w lB (.int 256 y0) (.int 4 y1) (.int 20 y2) (.int 16 y3) (.int f y4) (.int lo y5) (.int mo y6) (.int tr y7) (.int 2 y8) (.int 12 y9)) :: rest) ++ WT)) → Q (.ref tx) { s with heap := h', toks := tk' }) :
    wpAny (model PySem.Challenge.rw_xw0342_01.row.prog w) (ktrTop dp un gd cn cs L a ccd cl outer) (call (.ref 887) [.ref lx, .ref pa, .ref qa, .int 255 w1]) Q E s := by
  refine' cls_go C N ?hm ?hi ?hf ?ho ?hcd ?hroom ?hbind ?hloc ?hco ?hgen ?hk ?hcell ?_
  (case hm => k_is)
  (case hi => k_is)
  (case hf => k_is)
  (case ho => k_is)
  (case hcd => k_is)
  (case hroom => ktr_room)
  (case hbind => exact fun _ _ _ => BindsTo.of_eq rfl)
  (case hloc => exact fun _ => locs rfl)
  (case hco => exact rfl)
  (case hgen => exact rfl)
  (case hk => exact rfl)
  (case hcell => decide)
  intro x9 d9 g9 L9 h9 tk9 Q9 E9 l91 l92 F1 N1 B1 X1 T1 hq9
  k_dflt (refine' blk_go (self := Str.ofString "self") (n' := 3) X1 ?self ?sk ?hp ?hh ?hk ?hx ?hd (Nat.ne_of_gt l92) (allLt_ne l91) ?b F1 N1 ?fr ?len ?hn9 ?_)
  (case self => exact rfl)
  (case sk => k_is)
  (case hp => k_is)
  (case hh => k_is)
  (case hk => exact rfl)
  (case hx => exact rfl)
  (case hd => decide)
  (case b => exact .cons (by with_unfolding_all rfl) (by k_is) (by first | exact ev_int | exact ev_none | exact ev_bool | exact ev_bytes | exact ev_loc (by rfl) (by rfl) (by rfl) (by decide)) (.cons (by with_unfolding_all rfl) (by k_is) (by first | exact ev_int | exact ev_none | exact ev_bool | exact ev_bytes | exact ev_loc (by rfl) (by rfl) (by rfl) (by decide)) (.cons (by with_unfolding_all rfl) (by k_is) (by first | exact ev_int | exact ev_none | exact ev_bool | exact ev_bytes | exact ev_loc (by rfl) (by rfl) (by rfl) (by decide)) (.nil))))
  (case fr => kernel_rfl)
  (case len => exact Nat.le_of_ble_eq_true rfl)
  (case hn9 => exact rfl)
  intro B9 U9 h9 tk9 F9 N9
  k_steps
  unfold Stopped
  ((with_reducible show wpAny _ _ (call (Value.ref 666) _) _ _ _); k_dflt (refine' sender_ct (by walk_at "zC") (by k_asm) (by ktr_room) (by ktr_units) ?_; k_whole); intro sdS sxS pxS qdS qxS iBS hBS h2S h' tkc lS sS F' N'; (try dsimp only))
  refine' hide_s N' ?_
  intro RS hRS N''
  have oRS : Off d9 RS := by
    rw [← hRS]
    exact off_mk (by walk_at "zK")
  clear N'
  (try k_sweep)
  k_steps
  unfold Stopped
  ((with_reducible show wpAny _ _ (call (Value.ref 855) _) _ _ _); k_dflt (refine' clock_ct (by walk_at "zC") (by walk_at "zN") (by ktr_room) (by ktr_units) ?_; k_whole); intro xdK exK cdK cxK kBK t3K t4K t5K jBK u2K u3K h' tkc lK sK F' N'; (try dsimp only))
  refine' hide_s N' ?_
  intro RC hRC N''
  have oRC : Off d9 RC := by
    rw [← hRC]
    exact off_mk (by walk_at "zK")
  clear N'
  (try k_sweep)
  (k_steps; repeat' (unfold Stopped; (first
    | ((with_reducible show wpAny _ _ (call (Value.ref 244) _) _ _ _); k_dflt (refine' cong_ct (by walk_at "zC") (by k_asm) (by ktr_room) (by ktr_units) ?_; k_whole); intro vc h' tkc F' N'; (try dsimp only); (try k_sweep))
    | ((with_reducible show wpAny _ _ (call (Value.ref 153) _) _ _ _); k_dflt (refine' acks_ct (by walk_at "zC") (by k_asm) (by ktr_room) (by ktr_units) ?_; k_whole); intro va h' tkc F' N'; (try dsimp only); (try k_sweep))
    | ((with_reducible show wpAny _ _ (call (Value.ref 823) _) _ _ _); k_dflt (refine' wheel_ct (by walk_at "zC") (by k_asm) (by ktr_room) (by ktr_units) ?_; k_whole); intro wdW wxW slW ltW edW qBW z0W gtW WTw h' tkW l1 l2 hWw hA1W hA2W hA3W F' N'; walk_at "zE"; (try k_lt l1); (try k_sweep))); k_steps))
  refine hq9 _ _ _ _ (by k_asm) (by k_asm) fun kF kN => ?_
  (rename (AllLt _ _) => lW)
  (rename (Ap _ _) => aW)
  subst hRS hRC
  dsimp only [List.cons_append, List.nil_append] at kN aW lK lW
  refine' ret _ _ _ _ _ _ _ _ _ _ _ _ _ _ _ _ _ _ (tkL [_, _, _, _, _, _, _, _, _, _, _, _, _, _]) _ _ _ _ _ _ _ _ _ _ _ _ _ _ _ _ _ _ _ ?zl ?zs ?zW ?zo1 ?zo2 ?zo3 kF ?zn
  (case zn => exact (news_w kN (by (repeat (first | (with_reducible refine Sb.capp ?_) | ((with_reducible refine Sb.cons ?m9 ?_); (case m9 => k_mem)))); (repeat apply Sb.skip); exact Sb.refl)))
  (case zl => exact l91)
  (case zs => exact (by (repeat (refine' srt_cons ?a9 ?_; (case a9 => (first | assumption | (refine' lt_in ?h ?m; (case h => with_reducible assumption); (case m => k_mem)) | (refine' srt_lt sS ?zm; (case zm => regTopObjA_mem)) | (refine' srt_lt sK ?zm; (case zm => regTopObjA_mem)) | fail)))); exact srt_nil))
  (case zW => assumption)
  (case zo1 => first | k_all | fail)
  (case zo2 => first | k_all | fail)
  (case zo3 => walk_at "zA")
end
/-! nexttime -/
section
variable {w : World} {mean : ExcName → Option Value} {mg mb : Str → Option Value} {dp un : Nat} {gd : Option (List Code)} {cn : Str} {cs : Scope} {a : Addr} {ccd : Value} {cl : List (Str × Addr)} {outer : List Env} {A₀ : Around} {base h₀ : Heap}
  {L : Addr} {m : Str → Option Value} {rest : List (Addr × Obj)} {s : Shared} {Q E : Value → Shared → Prop}
theorem wk0 {prog : Program} {A : Around} {I : Addr} {fp own : List Addr} {P P' : Nat → Value → Prop} {St : Nat → Heap → Prop} (W : Walks prog w A I fp own 0 P St) : Walks prog w A I fp own 0 P' St :=
  { sub := W.sub, frame := W.frame, done := W.done, self := W.self, item := fun i _ _ _ hi => absurd hi (Nat.not_lt_zero i) }
def Src0 (prog : Program) (w : World) (A : Around) (h₀ : Heap) (L : Addr) (m : Str → Option Value) (Fin : Shared → List Value → List (Addr × Obj) → Prop) (xv : Value) (s₁ : Shared) : Prop :=
  ∃ d o news, xv = .ref d ∧ A.handled = none ∧ Fr h₀ L s₁.heap m ∧ News h₀ L s₁.heap news ∧ (d, o) ∈ news ∧ o.IsDictOf (intKind prog w) ([] : List (Int × Value)) ∧ (d == sysModules) = false ∧ ∀ g, Fin { s₁ with heap := g } [] news
theorem Src0.intro {prog : Program} {A : Around} {Fin : Shared → List Value → List (Addr × Obj) → Prop} {d : Addr} {o : Obj} {news : List (Addr × Obj)} (hh : A.handled = none) (F : Fr h₀ L s.heap m) (N : News h₀ L s.heap news) (hm : (d, o) ∈ news)
    (ho : o.IsDictOf (intKind prog w) ([] : List (Int × Value))) (lo : (d == sysModules) = false) (h : ∀ g, Fin { s with heap := g } [] news) : Src0 prog w A h₀ L m Fin (.ref d) s := ⟨d, o, news, rfl, hh, F, N, hm, ho, lo, h⟩
theorem Assign_ListComp_0 {prog : Program} {A : Around} {env : Env} {src body : PySem.Expr} {x y : Str} {pa pb pc pd : Pos} {sc : Scope} {cl : List (Str × Addr)} {Q : Flow → Shared → Prop} (now : Fr h₀ L s.heap m) (e0 : env.locals = L)
    (swap : swapsWith (.ListComp body [⟨.Name x pa, src, [], 0⟩] sc pc) (some (.Name y pb)) pd.line env = pure true) (clos : closureFor sc env = pure cl)
    (tab : (∀ z ∈ sc.names, z.2 ≠ .cell) ∧ (∀ z ∈ sc.names, z.2 = .local → sc.names.lookup z.1 = some .local) ∧ sc.names.lookup x = some .local ∧ sc.kind = .function)
    (own : env.kindOf y = some .local ∧ (env.scope.kind == .class || (env.scope.kind == .module && env.locals != env.globals)) = false) (plain : ∀ v, foldedSetIterable src env v = pure v)
    (h : wpAny (model prog w) A (eval src env) (Src0 prog w A h₀ L m (fun s' => LCg.FinA h₀ L m s' y Q)) E s) : wpAny (model prog w) A (exec (.Assign [.Name y pb] (.ListComp body [⟨.Name x pa, src, [], 0⟩] sc pc) pd) env) Q E s := by
  cases e0
  obtain ⟨noCell, locs, isX, isFn⟩ := tab
  rw [exec_Assign_Name_used _ _ _ _ swap]
  apply wpAny_bind; apply wpAny_standAt; apply wpAny_bind
  change wpAny _ A (do let _ ← comprehension (.ListComp body [⟨.Name x pa, src, [], 0⟩] sc pc) sc env _ (newList []) false (eval src env) (some (assign (.Name y pb) env))) _ _ s
  apply wpAny_bind
  refine wpAny_mono (wpAny_comprehension_free (use := some (assign (.Name y pb) env)) (Q := fun _ t => Q .next t) rfl plain clos isFn locs (wpAny_mono h ?turn fun _ _ k => k)) (fun _ _ q => wpAny_pure (wpAny_pure q)) (fun _ _ q => q)
  case turn =>
    rintro _ t ⟨d, o, nw, rfl, hh, F, N, hm, ⟨es, ep, ro⟩, lo, R⟩
    have there : d < t.heap.objs.size := Heap.lt_size (N _ hm).1
    have tab : ∀ g : Heap, g.get? d = some o → g.DictAt (intKind prog w) d ([] : List (Int × Value)) ep := fun g e => ⟨o, es, e, ro⟩
    have grow : ∀ (q : Obj) b c, t.heap.get? b = some c → (t.heap.push q).get? b = some c := fun q _ _ e => Heap.get?_push_of_some q e
    apply wpAny_pyIter_dict lo (tab _ (N _ hm).1)
    refine LCg.block_U (S := fun l => (d, o) ∈ l) (Fin := LCg.FinA h₀ env.locals m t y Q) (wk0 (P' := fun _ _ => True) (Walks.dictKeys hh t.heap.objs.size d (Nat.ne_of_lt there) ([] : List (Int × Value)) ep)) (Nat.zero_le _)
      ?it ?keep noCell isFn isX ⟨⟨_, Heap.get?_push_size _ rfl, rfl, rfl⟩, tab _ (grow _ _ _ (N _ hm).1)⟩ ?fp (F.keeps (grow _)) (N.grown (grow _)) (Nat.ne_of_lt F.ns.lt) (next_is_new F) (fun p hp => Nat.ne_of_lt (Heap.lt_size (N p hp).1)) hm (LCg.CompRest.zero (R t.heap)) ?last
    case it => rintro i g ⟨⟨q, e, -⟩, -⟩; exact ⟨q, e⟩
    case keep =>
      rintro i g g' q l ⟨⟨q2, e2, r2⟩, -⟩ e e' k N' hl
      cases e.symm.trans e2
      exact ⟨⟨_, e', r2⟩, tab _ (N' _ hl).1⟩
    case fp =>
      intro b hb
      have : b = t.heap.objs.size ∨ b = d := by simpa using hb
      show b < (t.heap.push _).objs.size
      rw [Heap.size_push]
      exact this.elim (fun e => e ▸ Nat.lt_succ_self _) (fun e => e ▸ Nat.lt_succ_of_lt there)
    case last =>
      intro D C g tk mC ys l FD ND o1 hC hC₀ hD₀ hCL hDL hCD away fin
      apply wpAny_assign_Name
      refine wpAny_storeName_local own.1 FD.ns (fun g2 n2 up => ⟨mC, hC.sameBut up hCL, fun g3 up3 => ?_⟩) own.2
      exact fin D g3 _ ((FD.set n2 up).change up3 hCL hC₀) (LCg.news_but (I := C) (ND.set up) (fun b c hb e => (up3.2 b (by simpa using hb)).trans e) (List.forall_mem_cons.mpr ⟨hCD.symm, away⟩)) o1
local macro_rules | `(tactic| walk_at "exec Assign cons ListComp") => `(tactic| (k_here; k_dflt (refine Assign_ListComp_0 (now := by k_asm) (by rfl) (by with_unfolding_all rfl) (by rfl) ⟨by decide, by decide, by rfl, by rfl⟩ ⟨by rfl, by rfl⟩ (fun _ => rfl) ?_)))
local macro_rules | `(tactic| walk_at "Src0") => `(tactic| (k_here; k_dflt (refine Src0.intro (by rfl) (by k_asm) (by k_asm) (by k_mem) (by assumption) (by assumption) ?_); intro g'))
set_option maxHeartbeats 0 in
theorem next_ct {wx wd sl lt ed : Addr} {qB : Nat → Tok} {z0 : Tok} {gv : Value} {n : Nat} {WT : List (Addr × Obj)} (C : Cx w mean mg mb cs outer A₀ base h₀ L m s.heap)
    (N : News h₀ L s.heap ((wx, instObj 823 wd) :: (wd, whlD w qB (.int 16 z0) (.ref sl) (.ref lt) (.ref ed) .none (gv)) :: (rest ++ WT))) (hW : WheelT w sl lt ed n [] WT) (hd : dp + 12 < recursionLimit) (hu : un + 160 < cLine)
    (ret : ∀  (h' : Heap) (tk' : Nat), Fr h₀ L h' m → News h₀ L h' ((wx, instObj 823 wd) :: (wd, whlD w qB (.int 16 z0) (.ref sl) (.ref lt) (.ref ed) .none (gv)) :: (rest ++ WT)) → Q .none { s with heap := h', toks := tk' }) :
    wpAny (model PySem.Challenge.rw_xw0342_01.row.prog w) (ktrTop dp un gd cn cs L a ccd cl outer) (call (.ref 808) [.ref wx]) Q E s := by
  obtain ⟨esl, elt, o, ss, es, W⟩ := hW
  have hWT := W.eq
  subst hWT
  have he : es = [] := List.map_eq_nil_iff.mp W.tm
  subst he
  have ho : o.IsDictOf (intKind PySem.Challenge.rw_xw0342_01.row.prog w) ([] : List (Int × Value)) := W.dict
  have hlo := W.lo
  obtain ⟨rest2, N1, hsub⟩ : ∃ r2, News h₀ L s.heap ((wx, instObj 823 wd) :: (wd, whlD w qB (.int 16 z0) (.ref sl) (.ref lt) (.ref ed) .none (gv)) :: (ed, o) :: r2) ∧ (∀ p ∈ (wx, instObj 823 wd) :: (wd, whlD w qB (.int 16 z0) (.ref sl) (.ref lt) (.ref ed) .none (gv)) :: (rest ++ (sl, listOf (itsE ss).toArray esl) :: (lt, listOf #[] elt) :: (ed, o) :: (slotL ss ++ entL [])), p ∈ (wx, instObj 823 wd) :: (wd, whlD w qB (.int 16 z0) (.ref sl) (.ref lt) (.ref ed) .none (gv)) :: (ed, o) :: r2) := by
    refine ⟨rest ++ (sl, listOf (itsE ss).toArray esl) :: (lt, listOf #[] elt) :: (slotL ss ++ entL []), fun p hp => N p ?_, fun p hp => ?_⟩
    · simp only [List.mem_cons, List.mem_append] at hp ⊢
      grind
    · simp only [List.mem_cons, List.mem_append] at hp ⊢
      grind
  clear N
  obtain ⟨B, F, X, T0, hk⟩ := C
  cases cs
  dsimp only at hk
  subst hk
  refine wpAny_call ?_
  k_dflt k_enter
  k_steps
  exact ret _ _ (by k_asm) (fun p hp => (news_w (by assumption) (by (repeat (first | (with_reducible refine Sb.capp ?_) | ((with_reducible refine Sb.cons ?m9 ?_); (case m9 => k_mem)))); (repeat apply Sb.skip); exact Sb.refl)) p (hsub p hp))
end
/-! told -/
section
variable {w : World} {mean : ExcName → Option Value} {mg mb : Str → Option Value} {dp un : Nat} {gd : Option (List Code)} {cn : Str} {cs : Scope} {a : Addr} {ccd : Value} {cl : List (Str × Addr)} {outer : List Env} {A₀ : Around} {base h₀ : Heap}
  {L : Addr} {m : Str → Option Value} {rest : List (Addr × Obj)} {s : Shared} {Q E : Value → Shared → Prop}
theorem compEnd_pick {C D I : Addr} {s₁ : Shared} {oI oC oD : Obj} {S : List (Addr × Obj) → Prop} {rs : Value → List (Addr × Obj) → Prop} {y : Value} {h' : Heap} {tk : Nat} {all r1 r2 r3 : List (Addr × Obj)}
    (F : Fr h₀ L h' m) (N : News h₀ L h' all) (p1 : Pick all (I, oI) r1) (p2 : Pick r1 (C, oC) r2) (p3 : Pick r2 (D, oD) r3) (a1 : ∀ p ∈ r3, p.1 ≠ I) (a2 : ∀ p ∈ r3, p.1 ≠ C) (a3 : ∀ p ∈ r3, p.1 ≠ D) (hS : S r3) (r : rs y r3) :
    LCg.CompEnd h₀ L m s₁ I oI C oC D oD S rs y { s₁ with heap := h', toks := tk } :=
  LCg.CompEnd.intro F N r3 (fun p hp => by
    rcases List.mem_cons.mp hp with rfl | hp
    · exact p1.mem.1
    rcases List.mem_cons.mp hp with rfl | hp
    · exact p1.mem.2 _ p2.mem.1
    rcases List.mem_cons.mp hp with rfl | hp
    · exact p1.mem.2 _ (p2.mem.2 _ p3.mem.1)
    · exact p1.mem.2 _ (p2.mem.2 _ (p3.mem.2 _ hp))) (LCg.Off3.of fun p hp => ⟨a1 p hp, a2 p hp, a3 p hp⟩) hS r
theorem off3s {I C D : Addr} {l : List (Addr × Obj)} (h : LCg.Off3 I C D l) : (∀ p ∈ l, p.1 ≠ I) ∧ (∀ p ∈ l, p.1 ≠ C) ∧ (∀ p ∈ l, p.1 ≠ D) := ⟨fun p hp => (h.mem p hp).1, fun p hp => (h.mem p hp).2.1, fun p hp => (h.mem p hp).2.2⟩
local macro_rules | `(tactic| walk_at "eval ListComp") => `(tactic| (k_here; k_dflt (refine LCg.ListComp_U (F₀ := by k_asm) (by rfl) (by decide) (by rfl) (by decide) (by rfl) ?_)))
local macro_rules | `(tactic| walk_at "CompSrc") => `(tactic| (k_here; k_dflt (refine LCg.CompSrc.ledger (by rfl) (by k_asm) (by k_asm) (by k_mem) (by first | size_fits | exact Nat.le_of_ble_eq_true rfl) ?_); intro g'; lcg_lit))
local macro_rules | `(tactic| walk_at "CompRest") => `(tactic| (with_unfolding_all first
  | (refine LCg.CompRest.succ ?_; intro v' I' oI' C' oC' D' m' h' tk' E' hv' hC' hx' F' N' off' ne'; (first | lcg_open hv' | (obtain ⟨t9', hv9'⟩ := hv'; subst hv9')); (obtain ⟨o1', o2', o3'⟩ := off3s off'); clear off'; (obtain ⟨n1', n2', n3'⟩ := ne'); (replace o1' := off_mk o1'); (replace o2' := off_mk o2'); (replace o3' := off_mk o3'))
  | refine LCg.CompRest.zero ?_))
local macro_rules | `(tactic| walk_at "CompEnd") => `(tactic| (refine' compEnd_pick ?F ?N ?p1 ?p2 ?p3 ?a1 ?a2 ?a3 ?hS ?_; (case F => assumption); (case N => assumption); (case p1 => repeat (first | exact Pick.head | apply Pick.tail)); (case p2 => repeat (first | exact Pick.head | apply Pick.tail)); (case p3 => repeat (first | exact Pick.head | apply Pick.tail)); (case a1 => k_all); (case a2 => k_all); (case a3 => k_all); (case hS => exact Or.inr ⟨_, by k_mem, rfl, _, rfl⟩); k_whole))
local macro_rules | `(tactic| walk_at "FinE") => `(tactic| (unfold LCg.FinE; intro D' h' tk' F' N' o1'; (have o2' := off1_mem o1'); (replace o2' := off_mk o2'); clear o1'; (try dsimp only)))
set_option maxHeartbeats 0 in
theorem told_ct {wx wd sl lt ed : Addr} {qB : Nat → Tok} {z0 : Tok} {g : Int} {gt : Tok} {n : Nat} {T : List (Int × Int)} {WT : List (Addr × Obj)} {tx td : Addr} {bB : Nat → Tok} {sx cx : Addr} {lim loc rmt st cng ack err pr una ngl : Value} (C : Cx w mean mg mb cs outer A₀ base h₀ L m s.heap)
    (N : News h₀ L s.heap ((wx, instObj 823 wd) :: (wd, whlD w qB (.int 16 z0) (.ref sl) (.ref lt) (.ref ed) .none (.int g gt)) :: (((tx, instObj 887 td) :: (td, tcbD w bB lim loc rmt (st) (.ref sx) .none (.ref cx) cng ack (.ref wx) err (pr) una ngl) :: rest) ++ WT))) (hW : WheelT w sl lt ed n T WT) (hn : n ≤ 900) (hA1 : ∀ p ∈ WT, p.1 ≠ wx) (hA2 : ∀ p ∈ WT, p.1 ≠ wd) (hA3 : ∀ q ∈ (tx, instObj 887 td) :: (td, tcbD w bB lim loc rmt (st) (.ref sx) .none (.ref cx) cng ack (.ref wx) err (pr) una ngl) :: rest, ∀ p ∈ WT, p.1 ≠ q.1) (hd : dp + 30 < recursionLimit) (hu : un + 400 < cLine)
    (ret : ∀ (z : Addr) (x1 x2 x3 : Value) (ez : Nat) (h' : Heap) (tk' : Nat), OV (atT T 1) x1 → OV (atT T 2) x2 → OV (atT T 4) x3 → (∀ p ∈ (wx, instObj 823 wd) :: (wd, whlD w qB (.int 16 z0) (.ref sl) (.ref lt) (.ref ed) .none (.int g gt)) :: (tx, instObj 887 td) :: (td, tcbD w bB lim loc rmt (st) (.ref sx) .none (.ref cx) cng ack (.ref wx) err (pr) una ngl) :: (rest ++ WT), p.1 ≠ z) → Fr h₀ L h' m → News h₀ L h' ((z, listOf #[x1, x2, x3] ez) :: (wx, instObj 823 wd) :: (wd, whlD w qB (.int 16 z0) (.ref sl) (.ref lt) (.ref ed) .none (.int g gt)) :: (((tx, instObj 887 td) :: (td, tcbD w bB lim loc rmt (st) (.ref sx) .none (.ref cx) cng ack (.ref wx) err (pr) una ngl) :: rest) ++ WT)) → Q (.ref z) { s with heap := h', toks := tk' }) :
    wpAny (model PySem.Challenge.rw_xw0342_01.row.prog w) (ktrTop dp un gd cn cs L a ccd cl outer) (call (.ref 987) [.ref tx]) Q E s := by
  obtain ⟨B, F, X, T0, hk⟩ := C
  replace hA3 := ap_mk hA3
  dsimp only [List.cons_append] at N
  cases cs
  dsimp only at hk
  subst hk
  refine wpAny_call ?_
  k_dflt k_enter
  (k_steps; repeat' (unfold Stopped; (first
    | ((with_reducible show wpAny _ _ (call (Value.ref 803) _) _ _ _); k_dflt (refine' time_ct (by walk_at "zC") (by walk_at "zN") (by assumption) (by omega) (by ktr_room) (by ktr_units) ?_; k_whole); intro vO h' tkO eO F' N'; (try dsimp only [List.cons_append, List.nil_append] at N'); (try dsimp only); (try k_sweep))); k_steps))
  refine ret _ _ _ _ _ _ _ (by assumption) (by assumption) (by assumption) ?_ (by k_asm) (news_w (by assumption) (by (repeat (first | (with_reducible refine Sb.capp ?_) | ((with_reducible refine Sb.cons ?m9 ?_); (case m9 => k_mem)))); (repeat apply Sb.skip); exact Sb.refl))
  walk_at "zK"
end
/-! loops -/
section
variable {w : World} {mean : ExcName → Option Value} {mg mb : Str → Option Value} {dp un : Nat} {gd : Option (List Code)} {cn : Str} {cs : Scope} {a : Addr} {ccd : Value} {cl : List (Str × Addr)} {outer : List Env} {A₀ : Around} {base h₀ : Heap}
  {L : Addr} {m : Str → Option Value} {rest : List (Addr × Obj)} {s : Shared} {Q E : Value → Shared → Prop}
/-- what holds behind a statement that goes on -/
def Jn (P : Shared → Prop) (fl : Flow) (s : Shared) : Prop := fl = .next ∧ P s
theorem joint {M : Model} {A : Around} {t : Sem Flow} {Q : Flow → Shared → Prop} (P : Shared → Prop) (h : wpAny M A t (Jn P) E s) (k : ∀ s', P s' → Q .next s') : wpAny M A t Q E s :=
  wpAny_mono h (fun fl s' e => by obtain ⟨rfl, e⟩ := e; exact k s' e) fun _ _ e => e
theorem range_go {prog : Program} {A : Around} {env : Env} {x : Str} {body : List Stmt} {Q : Flow → Shared → Prop} {σ : Type} {r : Addr} {b₀ : Int} {t₀ u₀ v₀ : Tok} {n : Nat} {m₀ : Str → Option Value}
    (Lg : σ → List (Addr × Obj)) (mm : σ → Str → Option Value) (J : Nat → σ → Prop) (c₀ : σ) (v₁ : Option Value)
    (hh : A.handled = none) (hr : IsRange s.heap r 0 b₀ 1 t₀ u₀ v₀) (hsmall : Builtin.Range.small 0 b₀ 1 = true) (hn : Builtin.Range.rangeSize 0 b₀ 1 = (n : Int)) (F : Fr h₀ env.locals s.heap m₀) (N : News h₀ env.locals s.heap (Lg c₀))
    (hJ : J 0 c₀) (hm : m₀ = fun z => if z = x then v₁ else mm c₀ z) (adr : ∀ c, (Lg c).map (·.1) = (Lg c₀).map (·.1))
    (turn : ∀ (k : Int) (i : Nat) (c : σ) (t : Tok) (h : Heap) (tk : Nat) (own : List (Addr × Obj)), i < n → J i c → OwnOff own ((Lg c₀).map (·.1)) → Fr h₀ env.locals h (fun z => if z = x then some (.int k t) else mm c z) → News h₀ env.locals h (Lg c ++ own) →
      wpAny (model prog w) A (execs body env) (Jn fun s' => ∃ (c' : σ) (tv : Option Value) (m' : Str → Option Value) (h' : Heap) (tk' : Nat), s' = { s with heap := h', toks := tk' } ∧ J (i + 1) c' ∧ Fr h₀ env.locals h' m' ∧ m' = (fun z => if z = x then tv else mm c' z) ∧ News h₀ env.locals h' (Lg c' ++ own)) E { s with heap := h, toks := tk })
    (done : ∀ (c : σ) (tv : Option Value) (h : Heap) (tk : Nat), J n c → Fr h₀ env.locals h (fun z => if z = x then tv else mm c z) → News h₀ env.locals h (Lg c) → Q .next { s with heap := h, toks := tk }) :
    wpAny (model prog w) A (pyIter (.ref r)) (fun it s₂ => LoopAtV prog w A h₀ env x body Q E it s₂) E s := by
  refine kpr_invN (fun (i : Nat) m nx => ∃ c tv, J i c ∧ nx = Lg c ∧ m = fun z => if z = x then tv else mm c z) hh hr hsmall hn F N ⟨c₀, v₁, hJ, rfl, hm⟩ ?_ ?_
  · rintro i k t m₁ nx h tk own hk ho ⟨c, tv, hJ', rfl, rfl⟩ F' N'
    have hi : i < n := by
      have := (List.getElem?_eq_some_iff.mp hk).1
      rwa [rangeKs_length] at this
    refine wpAny_mono (turn k i c t h tk own hi hJ' ho (by
        have e : (fun z => if z = x then some (Value.int k t) else (fun z => if z = x then tv else mm c z) z) = fun z => if z = x then some (Value.int k t) else mm c z := by
          funext z
          by_cases hz : z = x <;> simp [hz]
        rw [← e]
        exact F') N') (fun fl s' e => ?_) fun _ _ e => e
    obtain ⟨rfl, c', tv', m', h', tk', rfl, hJ2, F2, rfl, N2⟩ := e
    exact InvEndN.intro F2 N2 ⟨c', tv', hJ2, rfl, rfl⟩ (adr c') (fun p hp => List.mem_append_left _ hp) (fun p hp => List.mem_append_right _ hp)
  · rintro m₁ nx h tk ⟨c, tv, hJ', rfl, rfl⟩ F' N'
    rw [rangeKs_length] at hJ'
    exact done c tv h tk hJ' F' N'
theorem dbl_fold (lo mo : Int) (h1 : 1 ≤ lo) (h2 : lo ≤ mo) : ∀ (i : Nat) (x : Int), boundZ lo mo (2 ^ (i + 1) * boundZ lo mo x) = if 2 * boundZ lo mo (2 ^ i * boundZ lo mo x) < mo then 2 * boundZ lo mo (2 ^ i * boundZ lo mo x) else mo := by
  intro i x
  have hb : lo ≤ boundZ lo mo x ∧ boundZ lo mo x ≤ mo := by unfold boundZ; split <;> (try split) <;> omega
  generalize boundZ lo mo x = y at hb
  have hp : (1 : Int) ≤ 2 ^ i := Int.pow_pos (by decide)
  have hy : lo ≤ 2 ^ i * y := by
    have : 1 * y ≤ 2 ^ i * y := Int.mul_le_mul_of_nonneg_right hp (by omega)
    omega
  have e : (2 : Int) ^ (i + 1) * y = 2 * (2 ^ i * y) := by rw [Int.pow_succ]; rw [Int.mul_comm (2 ^ i) 2, Int.mul_assoc]
  rw [e]
  generalize 2 ^ i * y = u at hy
  unfold boundZ
  repeat' split
  all_goals omega
theorem dbl_zero (lo mo x : Int) (h2 : lo ≤ mo) : boundZ lo mo (2 ^ 0 * boundZ lo mo x) = boundZ lo mo x := by
  rw [Int.pow_zero, Int.one_mul]
  unfold boundZ
  repeat' split
  all_goals omega
theorem range_one {prog : Program} {A : Around} {env : Env} {x : Str} {body : List Stmt} {Q : Flow → Shared → Prop} {r : Addr} {b₀ : Int} {t₀ u₀ v₀ : Tok} {m₀ : Str → Option Value} {news : List (Addr × Obj)} {a0 : Int} {ta0 : Tok}
    (y : Str) (J : Nat → Int → Prop) (hh : A.handled = none) (hr : IsRange s.heap r 0 b₀ 1 t₀ u₀ v₀) (hb : b₀ < 2 ^ 62 ∧ -(2 ^ 62) ≤ b₀) (F : Fr h₀ env.locals s.heap m₀) (N : News h₀ env.locals s.heap news) (hy : m₀ y = some (.int a0 ta0)) (hxy : y ≠ x)
    (hJ : J 0 a0)
    (turn : ∀ (k : Int) (i : Nat) (a : Int) (ta t : Tok) (h : Heap) (tk : Nat) (own : List (Addr × Obj)), i < b₀.toNat → J i a → OwnOff own (news.map (·.1)) → Fr h₀ env.locals h (fun z => if z = x then some (.int k t) else if z = y then some (.int a ta) else m₀ z) → News h₀ env.locals h (news ++ own) →
      wpAny (model prog w) A (execs body env) (Jn fun s' => ∃ (a' : Int) (ta' : Tok) (m' : Str → Option Value) (h' : Heap) (tk' : Nat), s' = { s with heap := h', toks := tk' } ∧ J (i + 1) a' ∧ Fr h₀ env.locals h' m' ∧ m' y = some (.int a' ta') ∧ (∀ z, z ≠ x → z ≠ y → m' z = m₀ z) ∧ News h₀ env.locals h' (news ++ own)) E { s with heap := h, toks := tk })
    (done : ∀ (a : Int) (ta : Tok) (tv : Option Value) (h : Heap) (tk : Nat), J b₀.toNat a → Fr h₀ env.locals h (fun z => if z = x then tv else if z = y then some (.int a ta) else m₀ z) → News h₀ env.locals h news → Q .next { s with heap := h, toks := tk }) :
    wpAny (model prog w) A (pyIter (.ref r)) (fun it s₂ => LoopAtV prog w A h₀ env x body Q E it s₂) E s := by
  refine range_go (σ := Int × Tok) (fun _ => news) (fun c z => if z = y then some (.int c.1 c.2) else m₀ z) (fun i c => J i c.1) (a0, ta0) (m₀ x) hh hr (small_one (by decide) (by decide) hb.2 hb.1) (n := b₀.toNat) (by rw [rangeSize_nat, Int.sub_zero]) F N hJ ?_ (fun _ => rfl) ?_ ?_
  · funext z
    by_cases h1 : z = x
    · rw [if_pos h1, h1]
    · rw [if_neg h1]
      by_cases h2 : z = y
      · rw [if_pos h2, h2, hy]
      · rw [if_neg h2]
  · intro k i c t h tk own hi hj ho F' N'
    refine wpAny_mono (turn k i c.1 c.2 t h tk own hi hj ho F' N') (fun fl s' e => ?_) fun _ _ e => e
    obtain ⟨rfl, a', ta', m', h', tk', rfl, j2, F2, q1, q2, N2⟩ := e
    refine ⟨rfl, (a', ta'), m' x, m', h', tk', rfl, j2, F2, ?_, N2⟩
    funext z
    by_cases h1 : z = x
    · rw [if_pos h1, h1]
    · rw [if_neg h1]
      by_cases h2 : z = y
      · rw [if_pos h2, h2]; exact q1
      · rw [if_neg h2]; exact q2 z h1 h2
  · intro c tv h tk hj F' N'
    exact done c.1 c.2 tv h tk hj F' N'
end
/-! wait -/
section
variable {w : World} {mean : ExcName → Option Value} {mg mb : Str → Option Value} {dp un : Nat} {gd : Option (List Code)} {cn : Str} {cs : Scope} {a : Addr} {ccd : Value} {cl : List (Str × Addr)} {outer : List Env} {A₀ : Around} {base h₀ : Heap}
  {L : Addr} {m : Str → Option Value} {rest : List (Addr × Obj)} {s : Shared} {Q E : Value → Shared → Prop}
local macro_rules | `(tactic| walk_at "pyIter ref") => `(tactic| (k_here; (with_reducible show wpAny _ _ (pyIter (Value.ref _)) (fun it s₂ => LoopAtV _ _ _ _ _ _ _ _ _ it s₂) _ _); refine stopped ?_))
theorem if_min (a b : Int) : (if b < a then b else a) = min a b := by
  rw [Int.min_def]; split <;> split <;> omega
set_option maxHeartbeats 0 in
theorem wait_ct {bd : Addr} {f lo mo tr : Int} {t0 t1 t2 tt : Tok} {om : Option Int} {mv : Value} (C : Cx w mean mg mb cs outer A₀ base h₀ L m s.heap)
    (N : News h₀ L s.heap ((bd, ({ cls := .type "tuple", data := .seq #[.int f t0, .int lo t1, .int mo t2] } : Obj)) :: rest)) (hom : OV om mv) (b0 : 1 ≤ lo) (b1 : lo ≤ mo) (b2 : mo ≤ 100000) (b3 : 0 ≤ tr) (b4 : tr < 10) (b5 : 0 ≤ f) (b6 : f ≤ 100000) (b7 : ∀ x, om = some x → 0 ≤ x ∧ x < 100000) (hd : dp + 20 < recursionLimit) (hu : un + 300 < cLine)
    (ret : ∀ (z : Int) (t' : Tok) (h' : Heap) (tk' : Nat), z = boundZ lo mo (2 ^ (min tr 7).toNat * boundZ lo mo (om.elim f fun x => 3 * x)) → Fr h₀ L h' m → News h₀ L h' ((bd, ({ cls := .type "tuple", data := .seq #[.int f t0, .int lo t1, .int mo t2] } : Obj)) :: rest) → Q (.int z t') { s with heap := h', toks := tk' }) :
    wpAny (model PySem.Challenge.rw_xw0342_01.row.prog w) (ktrTop dp un gd cn cs L a ccd cl outer) (call (.ref 994) [.ref bd, mv, .int tr tt]) Q E s := by
  obtain ⟨B, F, X, T, hk⟩ := C
  obtain ⟨x9, hx9⟩ : ∃ x9, x9 = om.elim f (fun x => 3 * x) := ⟨_, rfl⟩
  rw [← hx9] at ret
  cases hom
  all_goals (try simp only [Option.elim] at hx9)
  all_goals (refine wpAny_call ?_; k_dflt cell_enter)
  all_goals k_steps
  all_goals unfold Stopped
  all_goals
    (rename Fr _ _ _ _ => F9)
    (rename News _ _ _ _ => N9)
    refine range_one (Str.ofString "wait") (fun (i : Nat) (a : Int) => a = boundZ lo mo (2 ^ i * boundZ lo mo x9)) (by rfl) (by assumption) (by split <;> omega) F9 N9 (by rfl) (by decide) ?_ ?_ ?_
    · rw [dbl_zero lo mo x9 b1, hx9]
      unfold boundZ
      repeat' split
      all_goals omega
    · intro k9 i9 a9 ta9 t9 h9 tk9 own9 hi9 hJ9 ho9 F9' N9'
      clear F9 N9
      simp only [List.cons_append] at N9'
      (try dsimp only)
      k_steps
      refine ⟨rfl, _, _, _, _, _, rfl, ?_, by assumption, by rfl, fun z h1 h2 => by simp [h1, h2], by assumption⟩
      rw [dbl_fold lo mo b0 b1, ← hJ9]
    · intro a9 ta9 tv9 h9 tk9 hJ9 F9' N9'
      clear F9 N9
      (try dsimp only)
      k_steps
      refine ret _ _ _ _ ?_ (by k_asm) (news_w (by assumption) (by (repeat (first | (with_reducible refine Sb.capp ?_) | ((with_reducible refine Sb.cons ?m9 ?_); (case m9 => k_mem)))); (repeat apply Sb.skip); exact Sb.refl))
      rw [hJ9, if_min]
end
/-! neov -/
section
variable {w : World} {mean : ExcName → Option Value} {mg mb : Str → Option Value} {dp un : Nat} {gd : Option (List Code)} {cn : Str} {cs : Scope} {a : Addr} {ccd : Value} {cl : List (Str × Addr)} {outer : List Env} {A₀ : Around} {base h₀ : Heap}
  {L : Addr} {m : Str → Option Value} {rest : List (Addr × Obj)} {s : Shared} {Q E : Value → Shared → Prop}
def ovD : Option Int → PyData
  | .none => .none
  | .some x => .int x
theorem ovRead {h : Heap} {o : Option Int} {v : Value} (x : OV o v) : Reads h v (ovD o) [] := by
  cases x
  · exact Reads.none
  · exact Reads.int _ _
theorem ovEqv (o : Option Int) : PyData.eqv (ovD o) (ovD o) = true := by cases o <;> simp [ovD, PyData.eqv]
theorem ne_ov {prog : Program} {A : Around} {l1 l2 : Addr} {e1 e2 : Nat} {v1 v2 v3 u1 u2 u3 : Value} {o1 o2 o3 : Option Int} (h1 : s.heap.get? l1 = some (listOf #[v1, v2, v3] e1)) (h2 : s.heap.get? l2 = some (listOf #[u1, u2, u3] e2))
    (a1 : OV o1 v1) (a2 : OV o2 v2) (a3 : OV o3 v3) (b1 : OV o1 u1) (b2 : OV o2 u2) (b3 : OV o3 u3) (hu : A.units + 64 < cLine) (h : Q (.bool false) s) :
    wpAny (model prog w) A (compareOp .NotEq (.ref l1) (.ref l2)) Q E s :=
  ne_dataH (da := .list [ovD o1, ovD o2, ovD o3]) (db := .list [ovD o1, ovD o2, ovD o3]) (reads_list_at h1 rfl rfl (.cons (ovRead a1) (.cons (ovRead a2) (.cons (ovRead a3) .nil)))) (reads_list_at h2 rfl rfl (.cons (ovRead b1) (.cons (ovRead b2) (.cons (ovRead b3) .nil))))
    (by cases o1 <;> cases o2 <;> cases o3 <;> rfl) (by cases o1 <;> cases o2 <;> cases o3 <;> rfl) hu (by
      have e : PyData.eqv (.list [ovD o1, ovD o2, ovD o3]) (.list [ovD o1, ovD o2, ovD o3]) = true := by simp [PyData.eqv, PyData.eqvAll, ovEqv]
      rw [e]
      exact h)
theorem eq_ov {prog : Program} {A : Around} {l1 l2 : Addr} {e1 e2 : Nat} {v1 v2 v3 u1 u2 u3 : Value} {o1 o2 o3 : Option Int} (h1 : s.heap.get? l1 = some (listOf #[v1, v2, v3] e1)) (h2 : s.heap.get? l2 = some (listOf #[u1, u2, u3] e2))
    (a1 : OV o1 v1) (a2 : OV o2 v2) (a3 : OV o3 v3) (b1 : OV o1 u1) (b2 : OV o2 u2) (b3 : OV o3 u3) (hu : A.units + 64 < cLine) (h : Q (.bool true) s) :
    wpAny (model prog w) A (compareOp .Eq (.ref l1) (.ref l2)) Q E s :=
  eq_dataH (da := .list [ovD o1, ovD o2, ovD o3]) (db := .list [ovD o1, ovD o2, ovD o3]) (reads_list_at h1 rfl rfl (.cons (ovRead a1) (.cons (ovRead a2) (.cons (ovRead a3) .nil)))) (reads_list_at h2 rfl rfl (.cons (ovRead b1) (.cons (ovRead b2) (.cons (ovRead b3) .nil))))
    (by cases o1 <;> cases o2 <;> cases o3 <;> rfl) (by cases o1 <;> cases o2 <;> cases o3 <;> rfl) hu (by
      have e : PyData.eqv (.list [ovD o1, ovD o2, ovD o3]) (.list [ovD o1, ovD o2, ovD o3]) = true := by simp [PyData.eqv, PyData.eqvAll, ovEqv]
      rw [e]
      exact h)
theorem ne_i2 {prog : Program} {A : Around} {l1 l2 : Addr} {e1 e2 : Nat} {i j : Int} {t1 t2 t3 t4 : Tok} (h1 : s.heap.get? l1 = some (listOf #[.int i t1, .int j t2] e1)) (h2 : s.heap.get? l2 = some (listOf #[.int i t3, .int j t4] e2))
    (hu : A.units + 64 < cLine) (h : Q (.bool false) s) : wpAny (model prog w) A (compareOp .NotEq (.ref l1) (.ref l2)) Q E s :=
  ne_dataH (da := .list [.int i, .int j]) (db := .list [.int i, .int j]) (reads_list_at h1 rfl rfl (.cons (Reads.int _ _) (.cons (Reads.int _ _) .nil))) (reads_list_at h2 rfl rfl (.cons (Reads.int _ _) (.cons (Reads.int _ _) .nil))) rfl rfl hu (by
    have e : PyData.eqv (.list [.int i, .int j]) (.list [.int i, .int j]) = true := by simp [PyData.eqv, PyData.eqvAll]
    rw [e]
    exact h)
theorem ne_t3 {prog : Program} {A : Around} {l1 l2 : Addr} {i : Int} {a b : Bool} {t1 t2 : Tok} {n1 n2 : Nat} (h1 : s.heap.get? l1 = some ({ cls := .type "tuple", data := .seq #[.int i t1, .bool a, .bool b] n1 } : Obj)) (h2 : s.heap.get? l2 = some ({ cls := .type "tuple", data := .seq #[.int i t2, .bool a, .bool b] n2 } : Obj))
    (hu : A.units + 64 < cLine) (h : Q (.bool false) s) : wpAny (model prog w) A (compareOp .NotEq (.ref l1) (.ref l2)) Q E s :=
  ne_dataH (da := .tuple [.int i, .bool a, .bool b]) (db := .tuple [.int i, .bool a, .bool b]) (reads_tuple_at h1 rfl rfl (.cons (Reads.int _ _) (.cons (Reads.bool _) (.cons (Reads.bool _) .nil)))) (reads_tuple_at h2 rfl rfl (.cons (Reads.int _ _) (.cons (Reads.bool _) (.cons (Reads.bool _) .nil)))) rfl rfl hu (by
    have e : PyData.eqv (.tuple [.int i, .bool a, .bool b]) (.tuple [.int i, .bool a, .bool b]) = true := by simp [PyData.eqv, PyData.eqvAll]
    rw [e]
    exact h)
theorem news_left2 {h : Heap} {a b : Addr × Obj} {r t : List (Addr × Obj)} (N : News h₀ L h (a :: b :: (r ++ t))) : News h₀ L h (a :: b :: r) := fun p hp => N p (by
  rcases List.mem_cons.mp hp with rfl | hp
  · exact .head _
  rcases List.mem_cons.mp hp with rfl | hp
  · exact .tail _ (.head _)
  exact .tail _ (.tail _ (List.mem_append_left _ hp)))
end
/-! right -/
section
variable {w : World} {mean : ExcName → Option Value} {mg mb : Str → Option Value} {dp un : Nat} {gd : Option (List Code)} {cn : Str} {cs : Scope} {a : Addr} {ccd : Value} {cl : List (Str × Addr)} {outer : List Env} {A₀ : Around} {base h₀ : Heap}
  {L : Addr} {m : Str → Option Value} {rest : List (Addr × Obj)} {s : Shared} {Q E : Value → Shared → Prop}
theorem range_led {prog : Program} {A : Around} {env : Env} {x : Str} {body : List Stmt} {Q : Flow → Shared → Prop} {σ : Type} {r : Addr} {b₀ : Int} {t₀ u₀ v₀ : Tok} {m₀ : Str → Option Value}
    (Lg : σ → List (Addr × Obj)) (J : Nat → σ → Prop) (c₀ : σ) (hh : A.handled = none) (hr : IsRange s.heap r 0 b₀ 1 t₀ u₀ v₀) (hb : b₀ < 2 ^ 62 ∧ -(2 ^ 62) ≤ b₀) (F : Fr h₀ env.locals s.heap m₀) (N : News h₀ env.locals s.heap (Lg c₀))
    (hJ : J 0 c₀) (adr : ∀ c, (Lg c).map (·.1) = (Lg c₀).map (·.1))
    (turn : ∀ (k : Int) (i : Nat) (c : σ) (t : Tok) (h : Heap) (tk : Nat) (own : List (Addr × Obj)), i < b₀.toNat → J i c → OwnOff own ((Lg c₀).map (·.1)) → Fr h₀ env.locals h (fun z => if z = x then some (.int k t) else m₀ z) → News h₀ env.locals h (Lg c ++ own) →
      wpAny (model prog w) A (execs body env) (Jn fun s' => ∃ (c' : σ) (h' : Heap) (tk' : Nat), s' = { s with heap := h', toks := tk' } ∧ J (i + 1) c' ∧ Fr h₀ env.locals h' (fun z => if z = x then some (.int k t) else m₀ z) ∧ News h₀ env.locals h' (Lg c' ++ own)) E { s with heap := h, toks := tk })
    (done : ∀ (c : σ) (tv : Option Value) (h : Heap) (tk : Nat), J b₀.toNat c → Fr h₀ env.locals h (fun z => if z = x then tv else m₀ z) → News h₀ env.locals h (Lg c) → Q .next { s with heap := h, toks := tk }) :
    wpAny (model prog w) A (pyIter (.ref r)) (fun it s₂ => LoopAtV prog w A h₀ env x body Q E it s₂) E s :=
  range_go Lg (fun _ => m₀) J c₀ (m₀ x) hh hr (small_one (by decide) (by decide) hb.2 hb.1) (n := b₀.toNat) (by rw [rangeSize_nat, Int.sub_zero]) F N hJ (by
    funext z
    by_cases h1 : z = x
    · rw [if_pos h1, h1]
    · rw [if_neg h1]) adr (fun k i c t h tk own hi hj ho F' N' => wpAny_mono (turn k i c t h tk own hi hj ho F' N') (fun fl s' e => by
      obtain ⟨rfl, c', h', tk', rfl, j2, F2, N2⟩ := e
      exact ⟨rfl, c', some (.int k t), _, h', tk', rfl, j2, F2, rfl, N2⟩) fun _ _ e => e) done
theorem list2_turns {prog : Program} {w : World} {A : Around} {env : Env} {target : PySem.Expr} {body : List Stmt} {Q : Flow → Shared → Prop} {ax : Addr} {v1 v2 : Value} {n : Nat} {m₀ : Str → Option Value} {news : List (Addr × Obj)}
    (hh : A.handled = none) (F : Fr h₀ env.locals s.heap m₀) (N : News h₀ env.locals s.heap news) (hm : (ax, listOf #[v1, v2] n) ∈ news)
    (k : ∀ I : Addr, (∀ p ∈ news, p.1 < I) → ItemsRest prog w A E h₀ env target body Q s [(I, "list_iterator")] [(ax, listOf #[v1, v2] n)] [.val v1, .val v2] m₀ news) :
    wpAny (model prog w) A (pyIter (.ref ax)) (fun it s₂ => TurnsAt prog w A h₀ env target body Q E it s₂) E s :=
  iter_listTurns (vs := [v1, v2]) hh F N hm rfl rfl k
theorem atT_filt {T : List (Int × Int)} {k j : Int} (h : j ≠ k) : atT (T.filter fun p => !(p.1 == k)) j = atT T j := by
  induction T with
  | nil => rfl
  | cons p r ih =>
    by_cases hp : p.1 = k
    · have : p.1 ≠ j := fun e => h (e ▸ hp)
      rw [List.filter_cons_of_neg (by simp [hp]), ih]
      exact (if_neg this).symm
    · rw [List.filter_cons_of_pos (by simp [hp])]
      unfold atT
      rw [ih]
theorem atT_filt_same {T : List (Int × Int)} {k : Int} : atT (T.filter fun p => !(p.1 == k)) k = none := by
  induction T with
  | nil => rfl
  | cons p r ih =>
    by_cases hp : p.1 = k
    · rw [List.filter_cons_of_neg (by simp [hp]), ih]
    · rw [List.filter_cons_of_pos (by simp [hp])]
      exact (if_neg hp).trans ih
theorem atT_app {T : List (Int × Int)} {k j v : Int} (h : j ≠ k) : atT (T ++ [(j, v)]) k = atT T k := by
  induction T with
  | nil => exact if_neg h
  | cons p r ih => exact congrArg (fun z => if p.1 = k then some p.2 else z) ih
theorem atT_end {T : List (Int × Int)} {k v : Int} (h : atT T k = none) : atT (T ++ [(k, v)]) k = some v := by
  induction T with
  | nil => exact if_pos rfl
  | cons p r ih =>
    unfold atT at h
    by_cases hp : p.1 = k
    · rw [if_pos hp] at h; cases h
    · rw [if_neg hp] at h
      exact (if_neg hp).trans (ih h)
/-- the ledger is hidden -/
def Hid (_ : List (Addr × Obj)) : Prop := True
/-- a goal that a joint has named -/
def Jx (P : Flow → Shared → Prop) : Flow → Shared → Prop := P
/-- the wheel behind a statement -/
inductive WJ (w : World) (wx wd sl lt ed : Addr) (qB : Nat → Tok) (z0 : Tok) (tl : List (Addr × Obj)) (bn : Nat) (o0 o1 : Option Int) (g : Heap) (L' : Addr) (m : Str → Option Value) (s : Shared) : Flow → Shared → Prop
  | mk {WT : List (Addr × Obj)} {n : Nat} {T : List (Int × Int)} {gi : Int} {gt : Tok} {h' : Heap} {tk' : Nat} (W : WheelT w sl lt ed n T WT) (hn : n ≤ bn) (h2 : atT T 2 = o0) (h4 : atT T 4 = o1) (a1 : ∀ p ∈ WT, p.1 ≠ wx) (a2 : ∀ p ∈ WT, p.1 ≠ wd) (a3 : Ap tl WT) (F : Fr g L' h' m)
      (N : News g L' h' ((wx, instObj 823 wd) :: (wd, whlD w qB (.int 16 z0) (.ref sl) (.ref lt) (.ref ed) .none (.int gi gt)) :: (tl ++ WT))) : WJ w wx wd sl lt ed qB z0 tl bn o0 o1 g L' m s .next { s with heap := h', toks := tk' }
theorem wi_joint {w : World} {wx wd sl lt ed : Addr} {qB : Nat → Tok} {z0 gt : Tok} {gi : Int} {tl l r1 r2 WT : List (Addr × Obj)} {g : Heap} {L' : Addr} {m₀ : Str → Option Value} {M : Model} {A : Around} {t : Sem Flow} {Q : Flow → Shared → Prop} (bn : Nat) (o0 o1 : Option Int) (_ : Fr g L' s.heap m₀) (_ : News g L' s.heap l)
    (_ : Pick l (wx, instObj 823 wd) r1) (_ : Pick r1 (wd, whlD w qB (.int 16 z0) (.ref sl) (.ref lt) (.ref ed) .none (.int gi gt)) r2) (_ : Split r2 tl WT)
    (h : wpAny M A t (Jx (WJ w wx wd sl lt ed qB z0 tl bn o0 o1 g L' m₀ s)) E s)
    (k : ∀ (WT : List (Addr × Obj)) (n : Nat) (T : List (Int × Int)) (gi : Int) (gt : Tok) (h' : Heap) (tk' : Nat), WheelT w sl lt ed n T WT → n ≤ bn → atT T 2 = o0 → atT T 4 = o1 → (∀ p ∈ WT, p.1 ≠ wx) → (∀ p ∈ WT, p.1 ≠ wd) → Ap tl WT → Fr g L' h' m₀ →
      News g L' h' ((wx, instObj 823 wd) :: (wd, whlD w qB (.int 16 z0) (.ref sl) (.ref lt) (.ref ed) .none (.int gi gt)) :: (tl ++ WT)) → Q .next { s with heap := h', toks := tk' }) : wpAny M A t Q E s :=
  wpAny_mono h (fun fl s' e => by cases e with | mk W hn h2 h4 a1 a2 a3 F N => exact k _ _ _ _ _ _ _ W hn h2 h4 a1 a2 a3 F N) fun _ _ e => e
/-- the estimate behind a statement -/
inductive EJ (w : World) (xd : Addr) (kB : Nat → Tok) (f lo mo : Int) (t0 t1 t2 : Tok) (tl : List (Addr × Obj)) (om : Option Int) (g : Heap) (L' : Addr) (m : Str → Option Value) (s : Shared) : Flow → Shared → Prop
  | mk {m8 s4 ms : Int} {t3 t4 t5 : Tok} {h' : Heap} {tk' : Nat} (hp : plainZ f m8 s4 ms = om.elim f (fun x => 3 * x)) (F : Fr g L' h' m)
      (N : News g L' h' ((xd, estD w kB (.int f t0) (.int lo t1) (.int mo t2) (.int m8 t3) (.int s4 t4) (.int ms t5)) :: tl)) : EJ w xd kB f lo mo t0 t1 t2 tl om g L' m s .next { s with heap := h', toks := tk' }
theorem es_joint {w : World} {xd : Addr} {kB : Nat → Tok} {f lo mo m8 s4 ms : Int} {t0 t1 t2 t3 t4 t5 : Tok} {tl l : List (Addr × Obj)} {g : Heap} {L' : Addr} {m₀ : Str → Option Value} {M : Model} {A : Around} {t : Sem Flow} {Q : Flow → Shared → Prop} (om : Option Int) (_ : Fr g L' s.heap m₀) (_ : News g L' s.heap l)
    (_ : Pick l (xd, estD w kB (.int f t0) (.int lo t1) (.int mo t2) (.int m8 t3) (.int s4 t4) (.int ms t5)) tl)
    (h : wpAny M A t (Jx (EJ w xd kB f lo mo t0 t1 t2 tl om g L' m₀ s)) E s)
    (k : ∀ (m8 s4 ms : Int) (t3 t4 t5 : Tok) (h' : Heap) (tk' : Nat), plainZ f m8 s4 ms = om.elim f (fun x => 3 * x) → Fr g L' h' m₀ → News g L' h' ((xd, estD w kB (.int f t0) (.int lo t1) (.int mo t2) (.int m8 t3) (.int s4 t4) (.int ms t5)) :: tl) → Q .next { s with heap := h', toks := tk' }) : wpAny M A t Q E s :=
  wpAny_mono h (fun fl s' e => by cases e with | mk hp F N => exact k _ _ _ _ _ _ _ _ hp F N) fun _ _ e => e
/-- what is not asked for is put behind a name -/
theorem hide5 {G : Prop} {g h : Heap} {L' : Addr} {e1 e2 e3 e4 e5 : Addr × Obj} {l r1 r2 r3 r4 r5 f t : List (Addr × Obj)} (N : News g L' h l) (p1 : Pick l e1 r1) (p2 : Pick r1 e2 r2) (p3 : Pick r2 e3 r3) (p4 : Pick r3 e4 r4) (p5 : Pick r4 e5 r5) (sp : Split r5 f t)
    (k : ∀ R, f = R → News g L' h (e1 :: e2 :: e3 :: e4 :: e5 :: (R ++ t)) → G) : G :=
  k f rfl (sl_news N (sl_cons p1 (sl_cons p2 (sl_cons p3 (sl_cons p4 (sl_cons p5 (sl_split sp)))))))
theorem ap_of {g h : Heap} {L' : Addr} {e1 e2 e3 e4 e5 : Addr × Obj} {R t : List (Addr × Obj)} (_ : News g L' h (e1 :: e2 :: e3 :: e4 :: e5 :: (R ++ t))) (k : ∀ q ∈ e3 :: e4 :: e5 :: R, ∀ p ∈ t, p.1 ≠ q.1) : Ap (e3 :: e4 :: e5 :: R) t := k
theorem hide4 {G : Prop} {g h : Heap} {L' : Addr} {e1 e2 e3 e4 : Addr × Obj} {l r1 r2 r3 r4 : List (Addr × Obj)} (N : News g L' h l) (p1 : Pick l e1 r1) (p2 : Pick r1 e2 r2) (p3 : Pick r2 e3 r3) (p4 : Pick r3 e4 r4)
    (k : ∀ R, r4 = R → News g L' h (e1 :: e2 :: e3 :: e4 :: R) → G) : G :=
  k r4 rfl (sl_news N (sl_cons p1 (sl_cons p2 (sl_cons p3 (sl_cons p4 sl_refl)))))
theorem hide6 {G : Prop} {g h : Heap} {L' : Addr} {e1 e2 e3 e4 e5 e6 : Addr × Obj} {l r1 r2 r3 r4 r5 r6 : List (Addr × Obj)} (N : News g L' h l) (p1 : Pick l e1 r1) (p2 : Pick r1 e2 r2) (p3 : Pick r2 e3 r3) (p4 : Pick r3 e4 r4) (p5 : Pick r4 e5 r5) (p6 : Pick r5 e6 r6)
    (k : ∀ R, r6 = R → News g L' h (e1 :: e2 :: e3 :: e4 :: e5 :: e6 :: R) → G) : G :=
  k r6 rfl (sl_news N (sl_cons p1 (sl_cons p2 (sl_cons p3 (sl_cons p4 (sl_cons p5 (sl_cons p6 sl_refl)))))))
local macro_rules | `(tactic| walk_at "exec For Tuple List cons nil") => `(tactic| (k_here; (fail_if_success (rename (Hid _) => hh)); refine stopped ?_))
local macro_rules | `(tactic| walk_at "exec If") => `(tactic| (k_here; (fail_if_success (with_reducible show wpAny _ _ _ (Jx _) _ _)); (fail_if_success (with_reducible show wpAny _ _ (exec (Stmt.If (Expr.BoolOp _ _ _) _ _ _) _) _ _ _)); refine stopped ?_))
local macro_rules | `(tactic| walk_at "pyIter ref") => `(tactic| (k_here; (with_reducible show wpAny _ _ (pyIter (Value.ref _)) (fun it s₂ => LoopAtV _ _ _ _ _ _ _ _ _ it s₂) _ _); refine stopped ?_))
local macro_rules | `(tactic| walk_at "pyIter ref") => `(tactic| (k_here; (with_reducible show wpAny _ _ (pyIter (Value.ref _)) (fun it s₂ => TurnsAt _ _ _ _ _ _ _ _ _ it s₂) _ _); (rename Fr _ _ _ _ => lF'); (rename News _ _ _ _ => lN'); (with_unfolding_all refine list2_turns (by rfl) lF' lN' (by k_mem) ?_); clear lF'; intro i' l1; (try k_lt l1)))
local macro_rules | `(tactic| walk_at "compareOp NotEq ref ref") => `(tactic| (k_here; (with_reducible show wpAny _ _ (compareOp _ _ _) _ _ _); refine stopped ?_))
local macro_rules | `(tactic| walk_at "compareOp Eq ref ref") => `(tactic| (k_here; (with_reducible show wpAny _ _ (compareOp _ _ _) _ _ _); refine stopped ?_))
local macro_rules | `(tactic| walk_at "subscriptTail Name Constant ref int") => `(tactic| (k_here; (with_reducible show wpAny _ _ (subscriptTail _ _ (Value.ref _) (Value.int _ _)) _ _ _); k_dflt (refine' item_is ?hl ?hx ?h0 ?h1 ?_; (case hl => exact News.isList (by k_asm) (by k_mem)); (case hx => rfl); (case h0 => decide); (case h1 => decide); k_whole)))
set_option maxHeartbeats 0 in
theorem right_ct {bd ts : Addr} {f lo mo tr now : Int} {t0 t1 t2 tt tn : Tok} {om o0 o1 : Option Int} {mv v0 v1 : Value} {b : Bool} {et : Nat} (C : Cx w mean mg mb cs outer A₀ base h₀ L m s.heap)
    (N : News h₀ L s.heap ((bd, ({ cls := .type "tuple", data := .seq #[.int f t0, .int lo t1, .int mo t2] } : Obj)) :: (ts, listOf #[v0, v1, .bool b] et) :: rest)) (hom : OV om mv) (ho0 : OV o0 v0) (ho1 : OV o1 v1) (b0 : 1 ≤ lo) (b1 : lo ≤ mo) (b2 : mo ≤ 100000) (b3 : 0 ≤ tr) (b4 : tr < 10) (b5 : 0 ≤ f) (b6 : f ≤ 100000) (b7 : ∀ x, om = some x → 0 ≤ x ∧ x < 100000) (hd : dp + 120 < recursionLimit) (hu : un + 2500 < cLine)
    (ret : ∀ (h' : Heap) (tk' : Nat), Fr h₀ L h' m → News h₀ L h' ((bd, ({ cls := .type "tuple", data := .seq #[.int f t0, .int lo t1, .int mo t2] } : Obj)) :: (ts, listOf #[v0, v1, .bool b] et) :: rest) → Q (.bool true) { s with heap := h', toks := tk' }) :
    wpAny (model PySem.Challenge.rw_xw0342_01.row.prog w) (ktrTop dp un gd cn cs L a ccd cl outer) (call (.ref 1001) [.ref bd, mv, .int tr tt, .ref ts, .int now tn]) Q E s := by
  obtain ⟨B, F, X, T, hk⟩ := C
  refine wpAny_call ?_
  k_dflt cell_enter
  (k_steps; repeat' (unfold Stopped; (first
    | ((with_reducible show wpAny _ _ (call (Value.ref 844) _) _ _ _); k_dflt (refine' limits_ct (by walk_at "zC") (by k_asm) (by ktr_room) (by ktr_units) ?_; k_whole); intro ldL lxL lB h' tkc l1 l2 F' N'; (try dsimp only); (try k_lt l1); (try k_sweep))
    | ((with_reducible show wpAny _ _ (call (Value.ref 887) _) _ _ _); k_dflt (refine' tcb_ct (by walk_at "zC") (by walk_at "zN") (by ktr_room) (by ktr_units) ?_; k_whole); intro td tx sd sx qd qx xd ex cd cx px wd wx sl lt ed cng ack bB stt pr un2 iB hB h2q kB t3 t4 t5 jB u2 u3 qB z0 gt WT h' tkc l1 hS hWw hA1W hA2W hA3W F' N'; walk_at "zE"; (try k_lt l1); (try k_sweep))
    | ((with_reducible show wpAny _ _ (call (Value.ref 905) _) _ _ _); k_dflt (refine' open_ct (by walk_at "zC") (by walk_at "zN") (by assumption) (by omega) (by walk_at "zK") (by walk_at "zK") (by walk_at "zA") (by walk_at "zK") (by walk_at "zK") (by walk_at "zK") (by walk_at "zK") (by walk_at "zD") (by walk_at "zD") (by walk_at "zD") (by walk_at "zD") (by rfl) (by ktr_room) (by ktr_units) ?_; k_whole); intro WT1 zo g1 gt1 prt stt1 w51 w61 h' tko hWo hA1W hA2W hA3W F' N'; walk_at "zE"; (try k_sweep))); k_steps))
  unfold Stopped
  (rename Fr _ _ _ _ => F9)
  (rename News _ _ _ _ => N9)
  refine' hide5 (e1 := (wx, _)) (e2 := (wd, _)) (e3 := (tx, _)) (e4 := (td, _)) (e5 := (ts, _)) N9 ?yp1 ?yp2 ?yp3 ?yp4 ?yp5 ?ysp ?_
  (case yp1 => repeat (first | exact Pick.head | apply Pick.tail))
  (case yp2 => repeat (first | exact Pick.head | apply Pick.tail))
  (case yp3 => repeat (first | exact Pick.head | apply Pick.tail))
  (case yp4 => repeat (first | exact Pick.head | apply Pick.tail))
  (case yp5 => repeat (first | exact Pick.head | apply Pick.tail))
  (case ysp => (repeat apply Split.cons); first | exact Split.app | exact Split.nil)
  intro R1 hR1 N2
  clear N9
  have hA3 := ap_of N2 (by rw [← hR1]; walk_at "zA")
  have hRwd : Off wd R1 := by
    rw [← hR1]
    exact off_mk (by walk_at "zK")
  have hid9 : Hid R1 := trivial
  clear hA3W
  (k_steps; repeat' (unfold Stopped; (first
    | ((with_reducible show wpAny _ _ (call (Value.ref 782) _) _ _ _); k_dflt (refine' put_ct (by walk_at "zC") (by walk_at "zN") (by assumption) (by omega) (by walk_at "zK") (by walk_at "zK") (by walk_at "zA") (by walk_at "zK") (by k_ne) (by ktr_room) (by ktr_units) ?_; k_whole); intro WTp gp gtp h' tkp hWp hA1W hA2W hA3W F' N'; walk_at "zE"; (try k_sweep))); k_steps))
  unfold Stopped
  (rename Fr _ _ _ _ => F9)
  (rename News _ _ _ _ => N9)
  refine' wi_joint 2 (o0) (none) F9 N9 ?yp1 ?yp2 ?ysp ?_ ?_
  (case yp1 => repeat (first | exact Pick.head | apply Pick.tail))
  (case yp2 => repeat (first | exact Pick.head | apply Pick.tail))
  (case ysp => (repeat apply Split.cons); first | exact Split.app | exact Split.nil)
  · cases ho0
    all_goals (k_steps; repeat' (unfold Stopped; (first
    | ((with_reducible show wpAny _ _ (call (Value.ref 782) _) _ _ _); k_dflt (refine' put_ct (by walk_at "zC") (by walk_at "zN") (by assumption) (by omega) (by walk_at "zK") (by walk_at "zK") (by walk_at "zA") (by walk_at "zK") (by k_ne) (by ktr_room) (by ktr_units) ?_; k_whole); intro WTp gp gtp h' tkp hWp hA1W hA2W hA3W F' N'; walk_at "zE"; (try k_sweep))
    | ((with_reducible show wpAny _ _ (call (Value.ref 796) _) _ _ _); k_dflt (refine' cancel_ct (by walk_at "zC") (by walk_at "zN") (by assumption) (by omega) (by walk_at "zK") (by walk_at "zK") (by walk_at "zA") (by ktr_room) (by ktr_units) ?_; k_whole); intro WTc h' tkc hWc hA1W hA2W hA3W F' N'; walk_at "zE"; (try k_sweep))); k_steps))
    all_goals (unfold Jx; apply WJ.mk)
    all_goals (first | with_reducible assumption | ((with_reducible show News _ _ _ _); exact (news_w (by assumption) (by (repeat (first | (with_reducible refine Sb.capp ?_) | ((with_reducible refine Sb.cons ?m9 ?_); (case m9 => k_mem)))); (repeat apply Sb.skip); exact Sb.refl))) | ((with_reducible show Ap _ _); exact ap_mk (by walk_at "zA")) | omega | k_asm | (rw [atT_filt (by decide)]; assumption) | (rw [atT_end atT_filt_same]) | (rw [atT_app (by decide), atT_filt (by decide)]; assumption) | rfl | fail)
  intro WT2 n2 T2 gi2 gt2 h9 tk9 hW2 hn2 hT22 hT24 hA12 hA22 hA32 F82 N82
  (try clear F9); (try clear N9); (try clear hWo hA1W hA2W hA3 N2)
  (try dsimp only [List.cons_append, List.nil_append] at N82)
  (try dsimp only)
  (k_steps; repeat' (unfold Stopped; (first
    | ((with_reducible show wpAny _ _ (call (Value.ref 782) _) _ _ _); k_dflt (refine' put_ct (by walk_at "zC") (by walk_at "zN") (by assumption) (by omega) (by walk_at "zK") (by walk_at "zK") (by walk_at "zA") (by walk_at "zK") (by k_ne) (by ktr_room) (by ktr_units) ?_; k_whole); intro WTp gp gtp h' tkp hWp hA1W hA2W hA3W F' N'; walk_at "zE"; (try k_sweep))); k_steps))
  unfold Stopped
  (rename Fr _ _ _ _ => F9)
  (rename News _ _ _ _ => N9)
  refine' wi_joint 3 (o0) (o1) F9 N9 ?yp1 ?yp2 ?ysp ?_ ?_
  (case yp1 => repeat (first | exact Pick.head | apply Pick.tail))
  (case yp2 => repeat (first | exact Pick.head | apply Pick.tail))
  (case ysp => (repeat apply Split.cons); first | exact Split.app | exact Split.nil)
  · cases ho1
    all_goals (k_steps; repeat' (unfold Stopped; (first
    | ((with_reducible show wpAny _ _ (call (Value.ref 782) _) _ _ _); k_dflt (refine' put_ct (by walk_at "zC") (by walk_at "zN") (by assumption) (by omega) (by walk_at "zK") (by walk_at "zK") (by walk_at "zA") (by walk_at "zK") (by k_ne) (by ktr_room) (by ktr_units) ?_; k_whole); intro WTp gp gtp h' tkp hWp hA1W hA2W hA3W F' N'; walk_at "zE"; (try k_sweep))
    | ((with_reducible show wpAny _ _ (call (Value.ref 796) _) _ _ _); k_dflt (refine' cancel_ct (by walk_at "zC") (by walk_at "zN") (by assumption) (by omega) (by walk_at "zK") (by walk_at "zK") (by walk_at "zA") (by ktr_room) (by ktr_units) ?_; k_whole); intro WTc h' tkc hWc hA1W hA2W hA3W F' N'; walk_at "zE"; (try k_sweep))); k_steps))
    all_goals (unfold Jx; apply WJ.mk)
    all_goals (first | with_reducible assumption | ((with_reducible show News _ _ _ _); exact (news_w (by assumption) (by (repeat (first | (with_reducible refine Sb.capp ?_) | ((with_reducible refine Sb.cons ?m9 ?_); (case m9 => k_mem)))); (repeat apply Sb.skip); exact Sb.refl))) | ((with_reducible show Ap _ _); exact ap_mk (by walk_at "zA")) | omega | k_asm | (rw [atT_filt (by decide)]; assumption) | (rw [atT_end atT_filt_same]) | (rw [atT_app (by decide), atT_filt (by decide)]; assumption) | rfl | fail)
  intro WT3 n3 T3 gi3 gt3 h9 tk9 hW3 hn3 hT32 hT34 hA13 hA23 hA33 F83 N83
  (try clear F9); (try clear N9); (try clear hW2 hA12 hA22 hA32 F82 N82)
  (try dsimp only [List.cons_append, List.nil_append] at N83)
  (try dsimp only)
  (k_steps; repeat' (unfold Stopped; (first
    | ((with_reducible show wpAny _ _ (call (Value.ref 782) _) _ _ _); k_dflt (refine' put_ct (by walk_at "zC") (by walk_at "zN") (by assumption) (by omega) (by walk_at "zK") (by walk_at "zK") (by walk_at "zA") (by walk_at "zK") (by k_ne) (by ktr_room) (by ktr_units) ?_; k_whole); intro WTp gp gtp h' tkp hWp hA1W hA2W hA3W F' N'; walk_at "zE"; (try k_sweep))
    | ((with_reducible show wpAny _ _ (call (Value.ref 796) _) _ _ _); k_dflt (refine' cancel_ct (by walk_at "zC") (by walk_at "zN") (by assumption) (by omega) (by walk_at "zK") (by walk_at "zK") (by walk_at "zA") (by ktr_room) (by ktr_units) ?_; k_whole); intro WTc h' tkc hWc hA1W hA2W hA3W F' N'; walk_at "zE"; (try k_sweep))); k_steps))
  unfold Stopped
  (rename Fr _ _ _ _ => F9)
  (rename News _ _ _ _ => N9)
  refine' wi_joint 4 (o0) (o1) F9 N9 ?yp1 ?yp2 ?ysp ?_ ?_
  (case yp1 => repeat (first | exact Pick.head | apply Pick.tail))
  (case yp2 => repeat (first | exact Pick.head | apply Pick.tail))
  (case ysp => (repeat apply Split.cons); first | exact Split.app | exact Split.nil)
  · cases b
    all_goals (k_steps; repeat' (unfold Stopped; (first
    | ((with_reducible show wpAny _ _ (call (Value.ref 782) _) _ _ _); k_dflt (refine' put_ct (by walk_at "zC") (by walk_at "zN") (by assumption) (by omega) (by walk_at "zK") (by walk_at "zK") (by walk_at "zA") (by walk_at "zK") (by k_ne) (by ktr_room) (by ktr_units) ?_; k_whole); intro WTp gp gtp h' tkp hWp hA1W hA2W hA3W F' N'; walk_at "zE"; (try k_sweep))
    | ((with_reducible show wpAny _ _ (call (Value.ref 796) _) _ _ _); k_dflt (refine' cancel_ct (by walk_at "zC") (by walk_at "zN") (by assumption) (by omega) (by walk_at "zK") (by walk_at "zK") (by walk_at "zA") (by ktr_room) (by ktr_units) ?_; k_whole); intro WTc h' tkc hWc hA1W hA2W hA3W F' N'; walk_at "zE"; (try k_sweep))); k_steps))
    all_goals (unfold Jx; apply WJ.mk)
    all_goals (first | with_reducible assumption | ((with_reducible show News _ _ _ _); exact (news_w (by assumption) (by (repeat (first | (with_reducible refine Sb.capp ?_) | ((with_reducible refine Sb.cons ?m9 ?_); (case m9 => k_mem)))); (repeat apply Sb.skip); exact Sb.refl))) | ((with_reducible show Ap _ _); exact ap_mk (by walk_at "zA")) | omega | k_asm | (rw [atT_filt (by decide)]; assumption) | (rw [atT_end atT_filt_same]) | (rw [atT_app (by decide), atT_filt (by decide)]; assumption) | rfl | fail)
  intro WT4 n4 T4 gi4 gt4 h9 tk9 hW4 hn4 hT42 hT44 hA14 hA24 hA34 F84 N84
  (try clear F9); (try clear N9); (try clear hW3 hA13 hA23 hA33 F83 N83)
  (try dsimp only [List.cons_append, List.nil_append] at N84)
  (try dsimp only)
  subst hR1
  k_steps
  unfold Stopped
  (rename Fr _ _ _ _ => F9)
  (rename News _ _ _ _ => N9)
  refine' hide6 (e1 := (tx, _)) (e2 := (td, _)) (e3 := (cx, _)) (e4 := (cd, _)) (e5 := (ex, _)) (e6 := (xd, _)) N9 ?yp1 ?yp2 ?yp3 ?yp4 ?yp5 ?yp6 ?_
  (case yp1 => repeat (first | exact Pick.head | apply Pick.tail))
  (case yp2 => repeat (first | exact Pick.head | apply Pick.tail))
  (case yp3 => repeat (first | exact Pick.head | apply Pick.tail))
  (case yp4 => repeat (first | exact Pick.head | apply Pick.tail))
  (case yp5 => repeat (first | exact Pick.head | apply Pick.tail))
  (case yp6 => repeat (first | exact Pick.head | apply Pick.tail))
  intro R2 hR2 N5
  clear N9
  have hR2xd : Off xd R2 := by
    rw [← hR2]
    exact off_mk (by walk_at "zK")
  have hR2cd : Off cd R2 := by
    rw [← hR2]
    exact off_mk (by walk_at "zK")
  (try clear N84)
  refine' es_joint om F9 N5 ?yp1 ?_ ?_
  (case yp1 => repeat (first | exact Pick.head | apply Pick.tail))
  · cases hom
    all_goals (k_steps; repeat' (unfold Stopped; (first
    | ((with_reducible show wpAny _ _ (call (Value.ref 346) _) _ _ _); k_dflt (refine' sample_ct (by walk_at "zC") (by walk_at "zN") (by walk_at "zK") (by k_ne) (by ktr_room) (by ktr_units) ?_; k_whole); intro m8S s4S msS t3S t4S t5S h' tkS eS1 eS2 eS3 F' N'; (try dsimp only); (try k_sweep))); k_steps))
    all_goals (unfold Jx; apply EJ.mk)
    all_goals (try first | with_reducible assumption | ((with_reducible show News _ _ _ _); exact (news_w (by assumption) (by (repeat (first | (with_reducible refine Sb.capp ?_) | ((with_reducible refine Sb.cons ?m9 ?_); (case m9 => k_mem)))); (repeat apply Sb.skip); exact Sb.refl))) | k_asm)
    all_goals (first | (simp [plainZ]; done) | (subst_vars; simp only [plainZ, Option.elim]; rw [if_neg (by decide), Int.mul_fdiv_cancel_left _ (by decide)]; omega) | fail)
  intro m8v s4v msv t3v t4v t5v h9 tk9 hPl F8 N6
  clear F9 N5
  (try dsimp only)
  k_steps
  unfold Stopped
  (rename Fr _ _ _ _ => F9)
  (rename News _ _ _ _ => N9)
  refine' hide4 (e1 := (tx, _)) (e2 := (td, _)) (e3 := (cx, _)) (e4 := (cd, _)) N9 ?yp1 ?yp2 ?yp3 ?yp4 ?_
  (case yp1 => repeat (first | exact Pick.head | apply Pick.tail))
  (case yp2 => repeat (first | exact Pick.head | apply Pick.tail))
  (case yp3 => repeat (first | exact Pick.head | apply Pick.tail))
  (case yp4 => repeat (first | exact Pick.head | apply Pick.tail))
  intro R3 hR3 N7
  clear N9
  have hR3cd : Off cd R3 := by
    rw [← hR3]
    exact off_mk (by walk_at "zK")
  refine range_led (σ := Int × Tok × Value) (fun c => (tx, instObj 887 td) :: (td, tcbD w bB _ _ _ _ _ _ _ _ _ _ _ _ _ _) :: (cx, instObj 321 cd) :: (cd, clkD w jB (.ref ex) (.int 12 _) (.int c.1 c.2.1) (c.2.2) _) :: R3) (fun i c => c.1 = (i : Int)) (0, u2, _) (by rfl) (by assumption) (by omega) F9 N7 rfl (fun _ => rfl) ?_ ?_
  · intro k9 i9 c9 t9 h9 tk9 own9 hi9 hJ9 ho9 F8' N8'
    obtain ⟨a9, u9, te9⟩ := c9
    simp only [List.cons_append] at N8'
    have hown : ∀ p ∈ own9, p.1 ≠ cd := fun p hp => ho9 p hp cd (by simp)
    clear F9 N7
    (try dsimp only)
    (k_steps; repeat' (unfold Stopped; (first
    | ((with_reducible show wpAny _ _ (call (Value.ref 297) _) _ _ _); k_dflt (refine' backoff_ct (by walk_at "zC") (by walk_at "zN") (by walk_at "zK") (by k_ne) (by ktr_room) (by ktr_units) ?_; k_whole); intro bB trB uB h' tkB eB F' N'; (try dsimp only); (try k_sweep))); k_steps))
    refine' ⟨rfl, (_, _, _), _, _, rfl, ?j9, ?f9, ?n9⟩
    (case f9 => assumption)
    (case n9 => exact (news_w (by assumption) (by (repeat (first | (with_reducible refine Sb.capp ?_) | ((with_reducible refine Sb.cons ?m9 ?_); (case m9 => k_mem)))); (repeat apply Sb.skip); exact Sb.refl)))
    (case j9 => dsimp only at hJ9 ⊢; omega)
  intro c9 tv9 h9 tk9 hJ9 F8' N8'
  obtain ⟨a9, u9, te9⟩ := c9
  obtain rfl : a9 = tr := by
    dsimp only at hJ9
    omega
  clear F9 N7
  subst hR3 hR2
  (try dsimp only at N8')
  (try dsimp only)
  (k_steps; repeat' (unfold Stopped; (first
    | ((with_reducible show wpAny _ _ (call (Value.ref 947) _) _ _ _); k_dflt (refine' set_resend_ct (by walk_at "zC") (by walk_at "zN") (by assumption) (by omega) (by walk_at "zK") (by walk_at "zK") (by walk_at "zA") (by walk_at "zO") (by walk_at "zO") (by walk_at "zK") (by walk_at "zD") (by ktr_room) (by ktr_units) ?_; k_whole); intro WTr gr' gtr h' tkr hWr hA1W hA2W hA3W F' N'; walk_at "zE"; (try k_sweep))
    | ((with_reducible show wpAny _ _ (call (Value.ref 987) _) _ _ _); k_dflt (refine' told_ct (by walk_at "zC") (by walk_at "zN") (by assumption) (by omega) (by walk_at "zK") (by walk_at "zK") (by walk_at "zA") (by ktr_room) (by ktr_units) ?_; k_whole); intro zT x1T x2T x3T ezT h' tkX e1T e2T e3T o2T F' N'; (try dsimp only [List.cons_append, List.nil_append] at o2T); (replace o2T := off_mk o2T); (try dsimp only [List.cons_append, List.nil_append] at N'); (try dsimp only); (try k_sweep))
    | ((with_reducible show wpAny _ _ (call (Value.ref 994) _) _ _ _); k_dflt (refine' wait_ct (by walk_at "zC") (by walk_at "zN") (by assumption) (by omega) (by omega) (by omega) (by omega) (by omega) (by omega) (by omega) (by assumption) (by ktr_room) (by ktr_units) ?_; k_whole); intro zW tW h' tkX eW F' N'; (try dsimp only); (try k_sweep))
    | ((with_reducible show wpAny _ _ (call (Value.ref 663) _) _ _ _); k_dflt (refine' acked_ct (by walk_at "zC") (by walk_at "zN") (by walk_at "zK") (by walk_at "zK") (by walk_at "zD") (by ktr_room) (by ktr_units) ?_; k_whole); intro zA z0A b0A t1A h' tkack ez0 eb0 l1 F' N'; subst ez0; subst eb0; (try k_lt l1); (try dsimp only); (try k_sweep))); k_steps))
  unfold Stopped
  (rename (OV (atT _ 1) _) => e1)
  (rename (OV (atT _ 2) _) => e2)
  (rename (OV (atT _ 4) _) => e3)
  rw [if_pos (by decide)] at e1 e2 e3
  rw [atT_end atT_filt_same] at e1
  rw [atT_app (by decide), atT_filt (by decide), hT42] at e2
  rw [atT_app (by decide), atT_filt (by decide), hT44] at e3
  (try dsimp only at e1)
  rw [hPl] at e1
  refine' ne_ov (News.get (by assumption) (by k_mem)) (News.get (by assumption) (by k_mem)) e1 e2 e3 ?b1 ho0 ho1 ?hu ?_
  (case b1 => (rename ((_ : Int) = boundZ lo mo _) => eW1); rw [eW1]; exact OV.int)
  (case hu => first | ke_room | ktr_units)
  (k_steps; repeat' (unfold Stopped; (first
    | ((with_reducible show wpAny _ _ (call (Value.ref 947) _) _ _ _); k_dflt (refine' set_resend_ct (by walk_at "zC") (by walk_at "zN") (by assumption) (by omega) (by walk_at "zK") (by walk_at "zK") (by walk_at "zA") (by walk_at "zO") (by walk_at "zO") (by walk_at "zK") (by walk_at "zD") (by ktr_room) (by ktr_units) ?_; k_whole); intro WTr gr' gtr h' tkr hWr hA1W hA2W hA3W F' N'; walk_at "zE"; (try k_sweep))
    | ((with_reducible show wpAny _ _ (call (Value.ref 987) _) _ _ _); k_dflt (refine' told_ct (by walk_at "zC") (by walk_at "zN") (by assumption) (by omega) (by walk_at "zK") (by walk_at "zK") (by walk_at "zA") (by ktr_room) (by ktr_units) ?_; k_whole); intro zT x1T x2T x3T ezT h' tkX e1T e2T e3T o2T F' N'; (try dsimp only [List.cons_append, List.nil_append] at o2T); (replace o2T := off_mk o2T); (try dsimp only [List.cons_append, List.nil_append] at N'); (try dsimp only); (try k_sweep))
    | ((with_reducible show wpAny _ _ (call (Value.ref 994) _) _ _ _); k_dflt (refine' wait_ct (by walk_at "zC") (by walk_at "zN") (by assumption) (by omega) (by omega) (by omega) (by omega) (by omega) (by omega) (by omega) (by assumption) (by ktr_room) (by ktr_units) ?_; k_whole); intro zW tW h' tkX eW F' N'; (try dsimp only); (try k_sweep))
    | ((with_reducible show wpAny _ _ (call (Value.ref 663) _) _ _ _); k_dflt (refine' acked_ct (by walk_at "zC") (by walk_at "zN") (by walk_at "zK") (by walk_at "zK") (by walk_at "zD") (by ktr_room) (by ktr_units) ?_; k_whole); intro zA z0A b0A t1A h' tkack ez0 eb0 l1 F' N'; subst ez0; subst eb0; (try k_lt l1); (try dsimp only); (try k_sweep))); k_steps))
  · exact absurd rfl (by assumption)
  unfold Stopped
  refine' ne_i2 (News.get (by assumption) (by k_mem)) (News.get (by assumption) (by k_mem)) ?hu ?_
  (case hu => first | ke_room | ktr_units)
  (k_steps; repeat' (unfold Stopped; (first
    | ((with_reducible show wpAny _ _ (call (Value.ref 947) _) _ _ _); k_dflt (refine' set_resend_ct (by walk_at "zC") (by walk_at "zN") (by assumption) (by omega) (by walk_at "zK") (by walk_at "zK") (by walk_at "zA") (by walk_at "zO") (by walk_at "zO") (by walk_at "zK") (by walk_at "zD") (by ktr_room) (by ktr_units) ?_; k_whole); intro WTr gr' gtr h' tkr hWr hA1W hA2W hA3W F' N'; walk_at "zE"; (try k_sweep))
    | ((with_reducible show wpAny _ _ (call (Value.ref 987) _) _ _ _); k_dflt (refine' told_ct (by walk_at "zC") (by walk_at "zN") (by assumption) (by omega) (by walk_at "zK") (by walk_at "zK") (by walk_at "zA") (by ktr_room) (by ktr_units) ?_; k_whole); intro zT x1T x2T x3T ezT h' tkX e1T e2T e3T o2T F' N'; (try dsimp only [List.cons_append, List.nil_append] at o2T); (replace o2T := off_mk o2T); (try dsimp only [List.cons_append, List.nil_append] at N'); (try dsimp only); (try k_sweep))
    | ((with_reducible show wpAny _ _ (call (Value.ref 994) _) _ _ _); k_dflt (refine' wait_ct (by walk_at "zC") (by walk_at "zN") (by assumption) (by omega) (by omega) (by omega) (by omega) (by omega) (by omega) (by omega) (by assumption) (by ktr_room) (by ktr_units) ?_; k_whole); intro zW tW h' tkX eW F' N'; (try dsimp only); (try k_sweep))
    | ((with_reducible show wpAny _ _ (call (Value.ref 663) _) _ _ _); k_dflt (refine' acked_ct (by walk_at "zC") (by walk_at "zN") (by walk_at "zK") (by walk_at "zK") (by walk_at "zD") (by ktr_room) (by ktr_units) ?_; k_whole); intro zA z0A b0A t1A h' tkack ez0 eb0 l1 F' N'; subst ez0; subst eb0; (try k_lt l1); (try dsimp only); (try k_sweep))); k_steps))
  unfold Stopped
  refine' ne_t3 (News.get (by assumption) (by k_mem)) (News.get (by assumption) (by k_mem)) ?hu ?_
  (case hu => first | ke_room | ktr_units)
  (rename News _ _ _ _ => N9)
  have N9' := news_w (r := (wx, instObj 823 wd) :: (wd, _) :: (tx, instObj 887 td) :: (td, _) :: (sx, instObj 666 sd) :: (sd, _) :: (cx, instObj 321 cd) :: (cd, _) :: (ex, instObj 377 xd) :: (xd, _) :: (bd, _) :: (ts, _) :: (rest ++ _)) N9 (by (repeat ((with_reducible refine Sb.cons ?m9 ?_); (case m9 => k_mem))); (repeat apply Sb.skip); exact Sb.refl)
  clear N9
  (k_steps; repeat' (unfold Stopped; (first
    | ((with_reducible show wpAny _ _ (call (Value.ref 947) _) _ _ _); k_dflt (refine' set_resend_ct (by walk_at "zC") (by walk_at "zN") (by assumption) (by omega) (by walk_at "zK") (by walk_at "zK") (by walk_at "zA") (by walk_at "zO") (by walk_at "zO") (by walk_at "zK") (by walk_at "zD") (by ktr_room) (by ktr_units) ?_; k_whole); intro WTr gr' gtr h' tkr hWr hA1W hA2W hA3W F' N'; walk_at "zE"; (try k_sweep))
    | ((with_reducible show wpAny _ _ (call (Value.ref 987) _) _ _ _); k_dflt (refine' told_ct (by walk_at "zC") (by walk_at "zN") (by assumption) (by omega) (by walk_at "zK") (by walk_at "zK") (by walk_at "zA") (by ktr_room) (by ktr_units) ?_; k_whole); intro zT x1T x2T x3T ezT h' tkX e1T e2T e3T o2T F' N'; (try dsimp only [List.cons_append, List.nil_append] at o2T); (replace o2T := off_mk o2T); (try dsimp only [List.cons_append, List.nil_append] at N'); (try dsimp only); (try k_sweep))
    | ((with_reducible show wpAny _ _ (call (Value.ref 994) _) _ _ _); k_dflt (refine' wait_ct (by walk_at "zC") (by walk_at "zN") (by assumption) (by omega) (by omega) (by omega) (by omega) (by omega) (by omega) (by omega) (by assumption) (by ktr_room) (by ktr_units) ?_; k_whole); intro zW tW h' tkX eW F' N'; (try dsimp only); (try k_sweep))
    | ((with_reducible show wpAny _ _ (call (Value.ref 663) _) _ _ _); k_dflt (refine' acked_ct (by walk_at "zC") (by walk_at "zN") (by walk_at "zK") (by walk_at "zK") (by walk_at "zD") (by ktr_room) (by ktr_units) ?_; k_whole); intro zA z0A b0A t1A h' tkack ez0 eb0 l1 F' N'; subst ez0; subst eb0; (try k_lt l1); (try dsimp only); (try k_sweep))); k_steps))
  unfold Stopped
  (rename (OV (atT _ 1) _) => e1)
  (rename (OV (atT _ 2) _) => e2)
  (rename (OV (atT _ 4) _) => e3)
  rw [if_neg (by decide)] at e1 e2 e3
  rw [if_pos (by decide)] at e2 e3
  rw [atT_filt_same] at e1
  rw [atT_filt (by decide), atT_app (by decide), atT_filt (by decide), hT42] at e2
  rw [atT_filt (by decide), atT_app (by decide), atT_filt (by decide), hT44] at e3
  refine' eq_ov (News.get (by assumption) (by k_mem)) (News.get (by assumption) (by k_mem)) e1 e2 e3 OV.none ho0 ho1 ?hu ?_
  (case hu => first | ke_room | ktr_units)
  k_steps
  refine ret _ _ (by k_asm) (news_left2 (t := _) (news_w (by assumption) (by (repeat (first | (with_reducible refine Sb.capp ?_) | ((with_reducible refine Sb.cons ?m9 ?_); (case m9 => k_mem)))); (repeat apply Sb.skip); exact Sb.refl)))
end
/-! pool -/
section
variable {w : World} {mean : ExcName → Option Value} {mg mb : Str → Option Value} {dp un : Nat} {gd : Option (List Code)} {cn : Str} {cs : Scope} {a : Addr} {ccd : Value} {cl : List (Str × Addr)} {outer : List Env} {A₀ : Around} {base h₀ : Heap}
  {L : Addr} {m : Str → Option Value} {rest : List (Addr × Obj)} {s : Shared} {Q E : Value → Shared → Prop}
theorem bit_nn (b : Bool) : (0 : Int) ≤ if b = true then 1 else 0 := by cases b <;> decide
local macro_rules | `(tactic| walk_at "call builtin:len") => `(tactic| (k_here; (with_reducible show wpAny _ _ (call (Value.builtin _) [Value.ref _]) _ _ _); (rename Fr _ _ _ _ => lF'); k_dflt (refine' len_ints_fit (Fr.lst lF' (by assumption)) (by assumption) ?k3 ?_; (case k3 => omega))))
local macro_rules | `(tactic| walk_at "subscriptTail Name Name ref int") => `(tactic| (k_here; (with_reducible show wpAny _ _ (subscriptTail _ _ (Value.ref _) (Value.int _ _)) _ _ _); (rename Fr _ _ _ _ => lF'); k_dflt (refine' item_list_ints (Fr.lst lF' (by assumption)) (by assumption) ?k3 ?k4 ?k5 ?_; (case k3 => omega); (case k4 => omega); (case k5 => omega); k_whole); intro _))
set_option maxHeartbeats 3000000 in
theorem pool_ct {sa : Addr} {vs : List Value} {ns : List Int} {t0 : Tok} (C : Cx w mean mg mb cs outer A₀ base h₀ L m s.heap)
    (N : News h₀ L s.heap rest) (hL : h₀.IsList sa vs.toArray) (hI : IntsAre vs ns) (h63 : ns.length ≤ 63) (hd : dp + 5 < recursionLimit) (hu : un + 100 < cLine)
    (ret : ∀ (z : Addr) (x y : Int) (t1 t2 : Tok) (ep : Nat) (h' : Heap) (tk' : Nat), 0 ≤ x → 0 ≤ y → AllLt z rest → Fr h₀ L h' m → News h₀ L h' ((z, listOf #[.int x t1, .int y t2] ep) :: rest) → Q (.ref z) { s with heap := h', toks := tk' }) :
    wpAny (model PySem.Challenge.rw_xw0342_01.row.prog w) (ktrTop dp un gd cn cs L a ccd cl outer) (call (.ref 968) [.ref sa, .int 0 t0]) Q E s := by
  obtain ⟨B, F, X, T, hk⟩ := C
  refine wpAny_call ?_
  k_dflt cell_enter
  k_steps
  (rename Fr h₀ L _ m => FG9)
  have hL2 := FG9.lst hL
  k_steps
  all_goals refine' ret _ _ _ _ _ _ _ _ ?_ ?_ (by assumption) (by k_asm) (by k_asm)
  all_goals (first | (exact Int.fmod_nonneg_of_pos _ (by decide)) | exact Int.mul_nonneg (by split <;> omega) (bit_nn _))
end
/-! lawl -/
section
variable {w : World} {mean : ExcName → Option Value} {mg mb : Str → Option Value} {dp un : Nat} {gd : Option (List Code)} {cn : Str} {cs : Scope} {a : Addr} {ccd : Value} {cl : List (Str × Addr)} {outer : List Env} {A₀ : Around} {base h₀ : Heap}
  {L : Addr} {m : Str → Option Value} {rest : List (Addr × Obj)} {s : Shared} {Q E : Value → Shared → Prop}
theorem range_any {prog : Program} {A : Around} {env : Env} {x : Str} {body : List Stmt} {Q : Flow → Shared → Prop} {σ : Type} {r : Addr} {b₀ : Int} {t₀ u₀ v₀ : Tok} {n : Nat} {m₀ : Str → Option Value}
    (Lg : σ → List (Addr × Obj)) (J : Nat → σ → Prop) (c₀ : σ) (hh : A.handled = none) (hr : IsRange s.heap r 0 b₀ 1 t₀ u₀ v₀) (hsmall : Builtin.Range.small 0 b₀ 1 = true) (hn : Builtin.Range.rangeSize 0 b₀ 1 = (n : Int)) (F : Fr h₀ env.locals s.heap m₀) (N : News h₀ env.locals s.heap (Lg c₀))
    (hJ : J 0 c₀) (adr : ∀ c, (Lg c).map (·.1) = (Lg c₀).map (·.1))
    (turn : ∀ (k : Int) (i : Nat) (c : σ) (t : Tok) (h : Heap) (tk : Nat) (own : List (Addr × Obj)) (mm : Str → Option Value), i < n → J i c → OwnOff own ((Lg c₀).map (·.1)) → Fr h₀ env.locals h (fun z => if z = x then some (.int k t) else mm z) → News h₀ env.locals h (Lg c ++ own) →
      wpAny (model prog w) A (execs body env) (Jn fun s' => ∃ (c' : σ) (m' : Str → Option Value) (h' : Heap) (tk' : Nat), s' = { s with heap := h', toks := tk' } ∧ J (i + 1) c' ∧ Fr h₀ env.locals h' m' ∧ News h₀ env.locals h' (Lg c' ++ own)) E { s with heap := h, toks := tk })
    (done : ∀ (c : σ) (m : Str → Option Value) (h : Heap) (tk : Nat), J n c → Fr h₀ env.locals h m → News h₀ env.locals h (Lg c) → Q .next { s with heap := h, toks := tk }) :
    wpAny (model prog w) A (pyIter (.ref r)) (fun it s₂ => LoopAtV prog w A h₀ env x body Q E it s₂) E s := by
  refine range_go (σ := σ × (Str → Option Value)) (fun c => Lg c.1) (fun c => c.2) (fun i c => J i c.1) (c₀, m₀) (m₀ x) hh hr hsmall hn F N hJ ?_ (fun c => adr c.1) ?_ ?_
  · funext z
    by_cases h1 : z = x
    · rw [if_pos h1, h1]
    · rw [if_neg h1]
  · intro k i c t h tk own hi hj ho F' N'
    refine wpAny_mono (turn k i c.1 t h tk own c.2 hi hj ho F' N') (fun fl s' e => ?_) fun _ _ e => e
    obtain ⟨rfl, c', m', h', tk', rfl, j2, F2, N2⟩ := e
    refine ⟨rfl, (c', m'), m' x, m', h', tk', rfl, j2, F2, ?_, N2⟩
    funext z
    by_cases h1 : z = x
    · rw [if_pos h1, h1]
    · rw [if_neg h1]
  · intro c tv h tk hj F' N'
    exact done c.1 _ h tk hj F' N'
theorem law_loop {prog : Program} {A : Around} {env : Env} {v : Str} {body : List Stmt} {Q : Flow → Shared → Prop} {r : Addr} {t₀ u₀ v₀ : Tok} {m₀ : Str → Option Value} {zp lp : Addr} {oc : Obj} {x y : Int} {t1 t2 : Tok} {ep : Nat}
    (F : Fr h₀ env.locals s.heap m₀) (N : News h₀ env.locals s.heap [(zp, listOf #[.int x t1, .int y t2] ep), (lp, oc)]) (hx : 0 ≤ x) (hy : 0 ≤ y) (hr : IsRange s.heap r 0 3 1 t₀ u₀ v₀) (hh : A.handled = none)
    (turn : ∀ (k : Int) (x y : Int) (t1 t2 t : Tok) (ep : Nat) (h : Heap) (tk : Nat) (own : List (Addr × Obj)) (mm : Str → Option Value), 0 ≤ x → 0 ≤ y → (∀ p ∈ own, p.1 ≠ zp) → (∀ p ∈ own, p.1 ≠ lp) → Fr h₀ env.locals h (fun z => if z = v then some (.int k t) else mm z) → News h₀ env.locals h ((zp, listOf #[.int x t1, .int y t2] ep) :: (lp, oc) :: own) →
      wpAny (model prog w) A (execs body env) (Jn fun s' => ∃ (x' y' : Int) (t1' t2' : Tok) (ep' : Nat) (m' : Str → Option Value) (h' : Heap) (tk' : Nat), s' = { s with heap := h', toks := tk' } ∧ 0 ≤ x' ∧ 0 ≤ y' ∧ Fr h₀ env.locals h' m' ∧ News h₀ env.locals h' ((zp, listOf #[.int x' t1', .int y' t2'] ep') :: (lp, oc) :: own)) E { s with heap := h, toks := tk })
    (done : ∀ (m : Str → Option Value) (h : Heap) (tk : Nat) (nw : List (Addr × Obj)), Fr h₀ env.locals h m → News h₀ env.locals h nw → Q .next { s with heap := h, toks := tk }) :
    wpAny (model prog w) A (pyIter (.ref r)) (fun it s₂ => LoopAtV prog w A h₀ env v body Q E it s₂) E s := by
  refine range_any (σ := Int × Int × Tok × Tok × Nat) (fun c => [(zp, listOf #[.int c.1 c.2.2.1, .int c.2.1 c.2.2.2.1] c.2.2.2.2), (lp, oc)]) (fun _ c => 0 ≤ c.1 ∧ 0 ≤ c.2.1) (x, y, t1, t2, ep) hh hr (by decide) (n := 3) (by decide) F N ⟨hx, hy⟩ (fun _ => rfl) ?_ ?_
  · intro k i c t h tk own mm hi hj ho F' N'
    refine wpAny_mono (turn k c.1 c.2.1 c.2.2.1 c.2.2.2.1 t c.2.2.2.2 h tk own mm hj.1 hj.2 (fun p hp => ho p hp zp (by simp)) (fun p hp => ho p hp lp (by simp)) F' N') (fun fl s' e => ?_) fun _ _ e => e
    obtain ⟨rfl, x', y', t1', t2', ep', m', h', tk', rfl, a, b, F2, N2⟩ := e
    exact ⟨rfl, (x', y', t1', t2', ep'), m', h', tk', rfl, ⟨a, b⟩, F2, N2⟩
  · intro c m h tk hj F' N'
    exact done m h tk _ F' N'
theorem one_ov_ct {sl tl : Addr} {x y r : Int} {t1 t2 t3 : Tok} {ep et : Nat} (C : Cx w mean mg mb cs outer A₀ base h₀ L m s.heap)
    (N : News h₀ L s.heap ((sl, listOf #[.int x t1, .int y t2] ep) :: (tl, listOf #[.none, .int r t3] et) :: rest)) (hR : ∀ p ∈ rest, p.1 ≠ sl) (hne : tl ≠ sl) (hd : dp + 7 < recursionLimit) (hu : un + 60 < cLine)
    (h0 : 0 ≤ x) (h1 : 0 ≤ y) (r0 : 0 ≤ r) (r1 : r < 100000)
    (ret : ∀ (v : Value) (o : Option Int) (x' y' : Int) (t1' t2' : Tok) (ep' : Nat) (h' : Heap) (tk' : Nat), OV o v → (∀ z, o = some z → 0 ≤ z ∧ z < 100000) → 0 ≤ x' → 0 ≤ y' → Fr h₀ L h' m → News h₀ L h' ((sl, listOf #[.int x' t1', .int y' t2'] ep') :: rest) → Q v { s with heap := h', toks := tk' }) :
    wpAny (model PySem.Challenge.rw_xw0342_01.row.prog w) (ktrTop dp un gd cn cs L a ccd cl outer) (call (.ref 982) [.ref sl, .ref tl]) Q E s :=
  one_ct C N hR hne hd hu h0 h1 fun v x' y' t1' t2' ep' h' tk' hv a b F' N' => by
    have N2 : News h₀ L h' ((sl, listOf #[.int x' t1', .int y' t2'] ep') :: rest) := fun p hp => N' p (by
      rcases List.mem_cons.mp hp with rfl | hp
      · exact .head _
      · exact .tail _ (.tail _ hp))
    rcases hv with rfl | rfl
    · exact ret _ none _ _ _ _ _ _ _ OV.none (fun z e => nomatch e) a b F' N2
    · exact ret _ (some r) _ _ _ _ _ _ _ OV.int (fun z e => by cases e; exact ⟨r0, r1⟩) a b F' N2
theorem cut1 {h h' : Heap} {a : Addr × Obj} {l : List (Addr × Obj)} (N0 : News h₀ L h [a]) (N : News h₀ L h' l) (m : a ∈ l) : News h₀ L h' [a] := fun p hp => N p (by rw [List.mem_singleton.mp hp]; exact m)
theorem wheel_to {sl lt ed : Addr} {n : Nat} {T T' : List (Int × Int)} {WT : List (Addr × Obj)} (h : WheelT w sl lt ed n T WT) (e : T = T') : WheelT w sl lt ed n T' WT := e ▸ h
end
local macro_rules | `(tactic| k_qdec) => `(tactic| decide +kernel)
local macro_rules | `(tactic| walk_at "CompSrc") => `(tactic| (k_here; k_dflt (refine LCg.CompSrc.range (n := 2) (by rfl) (by k_asm) (by k_asm) (by assumption) (by first | decide | rfl) (by first | rfl | decide) (by first | size_fits | exact Nat.le_of_ble_eq_true rfl) ?_; intro g')))
local macro_rules | `(tactic| walk_at "CompRest") => `(tactic| (with_unfolding_all first
  | (refine LCg.CompRest.succ ?_; intro v' I' oI' C' oC' D' m' h' tk' E' hv' hC' hx' F' N' off' ne'; (first | lcg_open hv' | (obtain ⟨t9', hv9'⟩ := hv'; subst hv9')); (obtain ⟨o1', o2', o3'⟩ := off3s off'); clear off'; (obtain ⟨n1', n2', n3'⟩ := ne'); (replace o1' := off_mk o1'); (replace o2' := off_mk o2'); (replace o3' := off_mk o3'))
  | refine LCg.CompRest.zero ?_))
local macro_rules | `(tactic| walk_at "CompEnd") => `(tactic| (refine' compEnd_pick ?F ?N ?p1 ?p2 ?p3 ?a1 ?a2 ?a3 ?hS ?_; (case F => assumption); (case N => assumption); (case p1 => repeat (first | exact Pick.head | apply Pick.tail)); (case p2 => repeat (first | exact Pick.head | apply Pick.tail)); (case p3 => repeat (first | exact Pick.head | apply Pick.tail)); (case a1 => k_all); (case a2 => k_all); (case a3 => k_all); (case hS => exact True.intro); k_whole))
local macro_rules | `(tactic| walk_at "FinE") => `(tactic| (unfold LCg.FinE; intro D' h' tk' F' N' o1'; (have o2' := off1_mem o1'); (replace o2' := off_mk o2'); clear o1'; (try dsimp only)))
local macro_rules | `(tactic| walk_at "eval Name") => `(tactic| (k_here; (with_reducible show wpAny _ _ (eval (Expr.Name (Str.ofString "_law_one") _) (compEnvC _ _ _ _)) _ _ _); k_dflt (refine LCgL.ld_global (by k_asm) (by k_asm) (by k_asm) (by k_is) ?_)))
local macro_rules | `(tactic| walk_at "eval Name") => `(tactic| (k_here; (with_reducible show wpAny _ _ (eval (Expr.Name (Str.ofString "_law_take") _) (compEnvC _ _ _ _)) _ _ _); k_dflt (refine LCgL.ld_global (by k_asm) (by k_asm) (by k_asm) (by k_is) ?_)))
local macro_rules | `(tactic| walk_at "eval Name") => `(tactic| (k_here; (with_reducible show wpAny _ _ (eval (Expr.Name (Str.ofString "source") _) (compEnvC _ _ _ _)) _ _ _); k_dflt (refine' lcf_free ?N ?c ?m ?d ?_ ?a ?b; (case a => rfl); (case b => rfl); (case N => k_asm); (case c => rfl); (case m => k_mem); (case d => k_asm))))
local macro_rules | `(tactic| walk_at "FinA") => `(tactic| (unfold LCg.FinA; intro D' h' tk' F' N' o1'; (have o2' := off1_mem o1'); (replace o2' := off_mk o2'); clear o1'; (try dsimp only)))
local macro_rules | `(tactic| walk_at "call builtin:list.append") => `(tactic| (k_here; (with_reducible show wpAny _ _ (call (Value.builtin _) [Value.ref _, _]) _ _ _); k_dflt (refine' append_K ?k1 ?k2 ?k3 ?_ ?z; (case k1 => k_asm); (case k2 => k_asm); (case k3 => k_upd); (case z => first | exact Nat.le_of_ble_eq_true rfl | decide); k_whole); intro h' F' N'; (try k_sweep)))
local macro_rules | `(tactic| walk_at "pyIter ref") => `(tactic| (k_here; (with_reducible show wpAny _ _ (pyIter (Value.ref _)) _ _ _); refine stopped ?_))
set_option maxHeartbeats 0 in
theorem law_holds : PySem.Challenge.rw_xw0342_01.Holds := by
  w_on
  refine holds_law law_said fun said => ?_
  refine holds_open (q := q1) (loose := loose1) (XP := XL q1 []) (Yf := Hook.obs HK) (Ya := Hook.val HK) (YP := Hook.says HK) (N := 20000) left1 (Hook.of HK) (Hook.keeps HK) (fun s e => xl_of s (Bool.and_eq_true_iff.mp e).1) XL.keeps (by rfl) (by rfl) (by rfl) (fun s e => recFacts_of (Bool.and_eq_true_iff.mp e).2) (by rfl) said law_ok law_bare law_asked ?hc
  case hc =>
    w_strict (k_go0; (all_goals try k_fold))
    (rename News _ _ _ _ => N0)
    (k_steps; repeat' (unfold Stopped; (first
    | ((with_reducible show wpAny _ _ (call (Value.ref 844) _) _ _ _); k_dflt (refine' limits_ct (by walk_at "zC") (by k_asm) (by ktr_room) (by ktr_units) ?_; k_whole); intro ldL lxL lB h' tkc l1 l2 F' N'; (try dsimp only); (try k_lt l1); (try k_sweep))
    | ((with_reducible show wpAny _ _ (call (Value.ref 887) _) _ _ _); k_dflt (refine' tcb_ct (by walk_at "zC") (by walk_at "zN") (by ktr_room) (by ktr_units) ?_; k_whole); intro td tx sd sx qd qx xd ex cd cx px wd wx sl lt ed cng ack bB stt pr un2 iB hB h2q kB t3 t4 t5 jB u2 u3 qB z0 gt WT h' tkc l1 hS hWw hA1W hA2W hA3W F' N'; walk_at "zE"; (try k_lt l1); (try k_sweep))
    | ((with_reducible show wpAny _ _ (call (Value.ref 947) _) _ _ _); k_dflt (refine' set_resend_ct (by walk_at "zC") (by walk_at "zN") (by assumption) (by omega) (by walk_at "zK") (by walk_at "zK") (by walk_at "zA") (by walk_at "zO") (by walk_at "zO") (by walk_at "zK") (by walk_at "zD") (by ktr_room) (by ktr_units) ?_; k_whole); intro WTr gr' gtr h' tkr hWr hA1W hA2W hA3W F' N'; walk_at "zE"; (try k_sweep))); k_steps))
    unfold Stopped
    (rename WheelT _ _ _ _ _ _ _ => hW5)
    have hW6 := wheel_to (T' := []) hW5 (by rw [if_neg (by decide)]; rfl)
    k_dflt (refine' next_ct ?C9 ?N9 hW6 ?hd9 ?hu9 ?_)
    (case C9 => walk_at "zC")
    (case N9 => walk_at "zN")
    (case hd9 => ktr_room)
    (case hu9 => ktr_units)
    intro h9 tk9 F9 N9
    (try dsimp only [List.cons_append, List.nil_append] at N9)
    have N1 := cut1 N0 N9 (by k_mem)
    clear N9
    (try dsimp only)
    (k_steps; repeat' (unfold Stopped; (first
    | ((with_reducible show wpAny _ _ (call (Value.ref 968) _) _ _ _); k_dflt (refine' pool_ct (by walk_at "zC") (by k_asm) (by first | assumption | exact Fr.lst (by assumption) (by assumption)) (by assumption) (by omega) (by ktr_room) (by ktr_units) ?_; k_whole); intro zP xP yP t1P t2P epP h' tkP hP0 hP1 lP F' N'; (try k_lt lP); (try dsimp only); (try k_sweep))); k_steps))
    unfold Stopped
    (rename Fr _ _ _ _ => F8)
    (rename News _ _ _ _ => N8)
    refine law_loop F8 N8 (by assumption) (by assumption) (by assumption) (by rfl) ?_ ?_
    · intro k9 x9 y9 t19 t29 t9 ep9 h9 tk9 own9 mm9 hx9 hy9 ho1 ho2 F9' N9'
      (try clear F8); (try clear N8)
      (try dsimp only)
      (k_steps; repeat' (unfold Stopped; (first
    | ((with_reducible show wpAny _ _ (call (Value.ref 975) _) _ _ _); k_dflt (refine' take_ct (by walk_at "zC") (by walk_at "zN") (by walk_at "zK") (by ktr_room) (by ktr_units) (by walk_at "zO") (by walk_at "zO") (by first | decide | omega) (by first | decide | omega) ?_; k_whole); intro rT xT yT tT t1T t2T epT h' tkT hT0 hT1 hT2 hT3 F' N'; (try dsimp only); (try k_sweep))
    | ((with_reducible show wpAny _ _ (call (Value.ref 982) _) _ _ _); k_dflt (refine' one_ov_ct (by walk_at "zC") (by walk_at "zN") (by walk_at "zK") (by k_ne) (by ktr_room) (by ktr_units) (by walk_at "zO") (by walk_at "zO") (by omega) (by omega) ?_; k_whole); intro vO oO xO yO t1O t2O epO h' tkO hO1 hO2 hO3 hO4 F' N'; (try dsimp only); (try k_sweep))); k_steps))
      unfold Stopped
      (rename News _ _ _ _ => N9)
      simp only [List.nil_append, List.cons_append, List.push_toArray] at N9
      k_dflt (refine' right_ct ?C9 ?N9 ?hom ?ho0 ?ho1 ?b0 ?b1 ?b2 ?b3 ?b4 ?b5 ?b6 ?b7 ?hd9 ?hu9 ?_)
      (case C9 => walk_at "zC")
      (case N9 => (refine' sl_news N9 ?s; (case s => walk_at "zS")))
      (case hom => assumption)
      (case ho0 => assumption)
      (case ho1 => assumption)
      (case b0 => omega)
      (case b1 => omega)
      (case b2 => omega)
      (case b3 => omega)
      (case b4 => omega)
      (case b5 => omega)
      (case b6 => omega)
      (case b7 => assumption)
      (case hd9 => ktr_room)
      (case hu9 => ktr_units)
      intro h9 tk9 F9 N9
      (try dsimp only)
      k_steps
      refine ⟨rfl, _, _, _, _, _, _, _, _, rfl, ?_, ?_, by assumption, (news_w N9 (by (repeat (first | (with_reducible refine Sb.capp ?_) | ((with_reducible refine Sb.cons ?m9 ?_); (case m9 => k_mem)))); (repeat apply Sb.skip); exact Sb.refl))⟩
      · omega
      · omega
    · intro m9 h9 tk9 nw9 F9' N9'
      (try clear F8); (try clear N8)
      (try dsimp only)
      k_steps
      all_goals (try k_data)
      all_goals w_report
end Mine
theorem PySem.Challenge.cw_xw0342_01_holds : PySem.Challenge.rw_xw0342_01.Holds :=
  Mine.law_holds
